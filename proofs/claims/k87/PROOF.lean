import PyProof.Rows.All
import Wide.All
import OpenK.AllK
import Wide.FinOn
import HandS.ForMost
import HandS.Deep
import HandS.Conv
import HandS.Style
import HandS.TupAny
import HandS.IsInst
import HandS.Flow
import HandS.Zip
import HandS.WideMore
import HandS.Defaults
import HandS.Lambda
import KE.GoesEnum
import KE.GoesMore
import HandS.TupLe
import HandS.SortOrd
import KE.SortKeyed
import HandS.WideBits
import HandS.Nested
import HandS.Head0
import HandS.Head1
import HandS.Head2
import HandS.HeadEnd
import HandS.HeadHook4
import HandS.HeadWalk
import PyProof.CallFns
import PyProof.ReprRoads
import HandS.SetFor
import HandS.Strs
import HandS.TupSets
import PyProof.AutoSeq1
import PyProof.FitsInt
import PyProof.ReprLoop
import PySem.Challenge.RW_pourasked_k87_whole_carried_back
set_option Elab.async false
set_option linter.all false
set_option maxRecDepth 100000
set_option maxHeartbeats 1000000
namespace DL
open PySem PySem.Spec PyProof.Rows L2
abbrev D := PyData
/-- a lambda's text: its name, its parameters, its body, its scope, the names that it captures -/
structure LamI where
  qual : Str
  params : Arguments
  body : Expr
  scope : Scope
  fr : List Str
inductive Cell where
  | un
  | im (d : D)
  | ow (cs : List Cell)
  | dk (ks : List Key) (cs : List Cell)
  | dt (ks : List (List Key)) (cs : List Cell)
  | fk (ks : List Key) (cs : List Cell)
  | ft (ks : List (List Key)) (cs : List Cell)
  | deck
  | fn (L : LamI) (ds : List D)
theorem SqT.mono {K : PySem.W.Frag} {H H' : Hp} {a : Addr} {xs : List V} (e : Same H H') (h : SqT K H a xs) : SqT K H' a xs := by
  rcases h with (h | ⟨o, h⟩) | h
  · exact .inl (.inl (e _ _ h))
  · exact .inl (.inr ⟨o, e _ _ h⟩)
  · exact .inr h
mutual
theorem Dp.mono {K : PySem.W.Frag} {H H' : Hp} (e : Same H H') : ∀ {v : V} {d : D}, Dp K H v d → Dp K H' v d
  | _, _, .non => .non
  | _, _, .bl b => .bl b
  | _, _, .int i => .int i
  | _, _, .str x => .str x
  | _, _, .lst h hs => .lst (e.seq h) (DpAll.mono e hs)
  | _, _, .tup h hs => .tup (SqT.mono e h) (DpAll.mono e hs)
theorem DpAll.mono {K : PySem.W.Frag} {H H' : Hp} (e : Same H H') : ∀ {vs : List V} {ds : List D}, DpAll K H vs ds → DpAll K H' vs ds
  | _, _, .nil => .nil
  | _, _, .cons h hs => .cons (Dp.mono e h) (DpAll.mono e hs)
end
theorem DpAll.length {K : PySem.W.Frag} {H : Hp} : ∀ {vs : List V} {ds : List D}, DpAll K H vs ds → vs.length = ds.length
  | _, _, .nil => rfl
  | _, _, .cons _ hs => by rw [List.length_cons, List.length_cons, DpAll.length hs]
theorem DpAll.get {K : PySem.W.Frag} {H : Hp} : ∀ {vs : List V} {ds : List D} {i : Nat} {d : D}, DpAll K H vs ds → ds[i]? = some d → ∃ v, vs[i]? = some v ∧ Dp K H v d
  | _, _, _, _, .nil, e => by simp at e
  | _, _, 0, _, .cons h _, e => by simp at e; subst e; exact ⟨_, rfl, h⟩
  | _, _, i + 1, _, .cons _ hs, e => by
    obtain ⟨v, h1, h2⟩ := DpAll.get (i := i) hs (by simpa using e)
    exact ⟨v, by simpa using h1, h2⟩
theorem DpAll.getV {K : PySem.W.Frag} {H : Hp} : ∀ {vs : List V} {ds : List D} {i : Nat} {v : V}, DpAll K H vs ds → vs[i]? = some v → ∃ d, ds[i]? = some d ∧ Dp K H v d
  | _, _, _, _, .nil, e => by simp at e
  | _, _, 0, _, .cons h _, e => by simp at e; subst e; exact ⟨_, rfl, h⟩
  | _, _, i + 1, _, .cons _ hs, e => by
    obtain ⟨v, h1, h2⟩ := DpAll.getV (i := i) hs (by simpa using e)
    exact ⟨v, by simpa using h1, h2⟩
theorem DpAll.app {K : PySem.W.Frag} {H : Hp} : ∀ {vs ws : List V} {ds es : List D}, DpAll K H vs ds → DpAll K H ws es → DpAll K H (vs ++ ws) (ds ++ es)
  | _, _, _, _, .nil, h => h
  | _, _, _, _, .cons h hs, h' => .cons h (DpAll.app hs h')
theorem DpAll.drop {K : PySem.W.Frag} {H : Hp} : ∀ {vs : List V} {ds : List D} (n : Nat), DpAll K H vs ds → DpAll K H (vs.drop n) (ds.drop n)
  | _, _, 0, h => h
  | _, _, _ + 1, .nil => .nil
  | _, _, n + 1, .cons _ hs => DpAll.drop n hs
theorem DpAll.take {K : PySem.W.Frag} {H : Hp} : ∀ {vs : List V} {ds : List D} (n : Nat), DpAll K H vs ds → DpAll K H (vs.take n) (ds.take n)
  | _, _, 0, _ => .nil
  | _, _, _ + 1, .nil => .nil
  | _, _, n + 1, .cons h hs => .cons h (DpAll.take n hs)
theorem DpAll.rev {K : PySem.W.Frag} {H : Hp} : ∀ {vs : List V} {ds : List D}, DpAll K H vs ds → DpAll K H vs.reverse ds.reverse
  | _, _, .nil => .nil
  | _, _, .cons h hs => by
    rw [List.reverse_cons, List.reverse_cons]
    exact DpAll.app (DpAll.rev hs) (.cons h .nil)
theorem DpAll.set {K : PySem.W.Frag} {H : Hp} {v : V} {d : D} (h : Dp K H v d) : ∀ {vs : List V} {ds : List D} (n : Nat), DpAll K H vs ds → DpAll K H (vs.set n v) (ds.set n d)
  | _, _, _, .nil => .nil
  | _, _, 0, .cons _ hs => .cons h hs
  | _, _, n + 1, .cons h' hs => .cons h' (DpAll.set h n hs)
theorem DpAll.ints {K : PySem.W.Frag} {H : Hp} : ∀ {vs : List V} {ns : List Int}, DpAll K H vs (ns.map PyData.int) → vs = ns.map V.int
  | [], [], _ => rfl
  | v :: vs, n :: ns, h => by
    cases h with
    | cons h1 h2 => cases h1; rw [List.map_cons, DpAll.ints h2]
theorem DpAll.bls {K : PySem.W.Frag} {H : Hp} : ∀ {vs : List V} {ns : List Bool}, DpAll K H vs (ns.map PyData.bool) → vs = ns.map V.bl
  | [], [], _ => rfl
  | v :: vs, n :: ns, h => by
    cases h with
    | cons h1 h2 => cases h1; rw [List.map_cons, DpAll.bls h2]
theorem DpAll.strs {K : PySem.W.Frag} {H : Hp} : ∀ {vs : List V} {ns : List Str}, DpAll K H vs (ns.map PyData.str) → vs = ns.map V.str
  | [], [], _ => rfl
  | v :: vs, n :: ns, h => by
    cases h with
    | cons h1 h2 => cases h1; rw [List.map_cons, DpAll.strs h2]
/-- the object at a is o -/
def ObX (a : Addr) (o : Obj) : HO := .ext fun h => h.get? a = some o
structure Capt (K : PySem.W.Frag) (F : Hp) (cl : List (Str × Addr)) (fr : List Str) (ds : List D) : Prop where
  len : ds.length = fr.length
  inj : ∀ x y c, cl.lookup x = some c → cl.lookup y = some c → x = y
  has : ∀ (i : Nat) (y : Str), fr[i]? = some y → ∃ c v d ob u, cl.lookup y = some c ∧ ds[i]? = some d ∧ Dp K F v d ∧ F c = some (ObX c ob) ∧ ob.data = .cell (some u) ∧ RelV v u
  only : ∀ y c, cl.lookup y = some c → y ∈ fr
theorem Capt.mono {K : PySem.W.Frag} {F F' : Hp} {cl : List (Str × Addr)} {fr : List Str} {ds : List D} (h : Capt K F cl fr ds) (e : Same F F') : Capt K F' cl fr ds :=
  ⟨h.len, h.inj, fun i y k => by
    obtain ⟨c, v, d, ob, u, h1, h2, h3, h4, h5⟩ := h.has i y k
    exact ⟨c, v, d, ob, u, h1, h2, Dp.mono e h3, e _ _ h4, h5⟩, h.only⟩
mutual
inductive CR (K : PySem.W.Frag) (da : Option Addr) (F H : Hp) : V → Cell → List Addr → Prop
  | un {v : V} : CR K da F H v .un []
  | im {v : V} {d : D} : Dp K F v d → CR K da F H v (.im d) []
  | ow {a : Addr} {vs : List V} {cs : List Cell} {fp : List Addr} : H a = some (.lst vs) → CRs K da F H vs cs fp → CR K da F H (.ref a) (.ow cs) (a :: fp)
  | dk {a : Addr} {ks : List Key} {vs : List V} {cs : List Cell} {fp : List Addr} : H a = some (.dK (ks.zip vs)) → ks.length = vs.length → CRs K da F H vs cs fp → CR K da F H (.ref a) (.dk ks cs) (a :: fp)
  | dt {a : Addr} {ks : List (List Key)} {vs : List V} {cs : List Cell} {fp : List Addr} : H a = some (.dT (ks.zip vs)) → ks.length = vs.length → CRs K da F H vs cs fp → CR K da F H (.ref a) (.dt ks cs) (a :: fp)
  | fk {a : Addr} {ks : List Key} {vs : List V} {cs : List Cell} : F a = some (.dK (ks.zip vs)) → ks.length = vs.length → CRs K da F H vs cs [] → CR K da F H (.ref a) (.fk ks cs) []
  | ft {a : Addr} {ks : List (List Key)} {vs : List V} {cs : List Cell} : F a = some (.dT (ks.zip vs)) → ks.length = vs.length → CRs K da F H vs cs [] → CR K da F H (.ref a) (.ft ks cs) []
  | deck {a : Addr} : da = some a → CR K da F H (.ref a) .deck []
  | fn {f c : Addr} {cl : List (Str × Addr)} {pm ctv : Value} {L : LamI} {ds : List D} : F f = some (ObX f (PySem.W.kla_obj "<lambda>" L.qual L.params L.body L.scope cl pm c ctv)) → F c = some (LamX.CodeO c L.qual) → Capt K F cl L.fr ds → CR K da F H (.ref f) (.fn L ds) []
inductive CRs (K : PySem.W.Frag) (da : Option Addr) (F H : Hp) : List V → List Cell → List Addr → Prop
  | nil : CRs K da F H [] [] []
  | cons {v : V} {vs : List V} {c : Cell} {cs : List Cell} {f fp : List Addr} : CR K da F H v c f → CRs K da F H vs cs fp → CRs K da F H (v :: vs) (c :: cs) (f ++ fp)
end
section
variable {K : PySem.W.Frag} {da : Option Addr} {F H F' H' : Hp}
mutual
theorem CR.mono (e : Same F F') : ∀ {v : V} {c : Cell} {fp : List Addr}, CR K da F H v c fp → (∀ a ∈ fp, ∀ o, H a = some o → H' a = some o) → CR K da F' H' v c fp
  | _, _, _, .un, _ => .un
  | _, _, _, .im h, _ => .im (Dp.mono e h)
  | _, _, _, .ow h hs, k => .ow (k _ List.mem_cons_self _ h) (CRs.mono e hs fun a ha => k a (List.mem_cons_of_mem _ ha))
  | _, _, _, .dk h l hs, k => .dk (k _ List.mem_cons_self _ h) l (CRs.mono e hs fun a ha => k a (List.mem_cons_of_mem _ ha))
  | _, _, _, .dt h l hs, k => .dt (k _ List.mem_cons_self _ h) l (CRs.mono e hs fun a ha => k a (List.mem_cons_of_mem _ ha))
  | _, _, _, .fk h l hs, k => .fk (e _ _ h) l (CRs.mono e hs k)
  | _, _, _, .ft h l hs, k => .ft (e _ _ h) l (CRs.mono e hs k)
  | _, _, _, .deck h, _ => .deck h
  | _, _, _, .fn h1 h2 h3, _ => .fn (e _ _ h1) (e _ _ h2) (h3.mono e)
theorem CRs.mono (e : Same F F') : ∀ {vs : List V} {cs : List Cell} {fp : List Addr}, CRs K da F H vs cs fp → (∀ a ∈ fp, ∀ o, H a = some o → H' a = some o) → CRs K da F' H' vs cs fp
  | _, _, _, .nil, _ => .nil
  | _, _, _, .cons h hs, k => .cons (CR.mono e h fun a ha => k a (List.mem_append_left _ ha)) (CRs.mono e hs fun a ha => k a (List.mem_append_right _ ha))
end
mutual
theorem CR.there : ∀ {v : V} {c : Cell} {fp : List Addr}, CR K da F H v c fp → ∀ a ∈ fp, ∃ o, H a = some o
  | _, _, _, .un, _, h => nomatch h
  | _, _, _, .im _, _, h => nomatch h
  | _, _, _, .ow h hs, a, m => by
    rcases List.mem_cons.mp m with e | m
    · subst e; exact ⟨_, h⟩
    · exact CRs.there hs a m
  | _, _, _, .dk h _ hs, a, m => by
    rcases List.mem_cons.mp m with e | m
    · subst e; exact ⟨_, h⟩
    · exact CRs.there hs a m
  | _, _, _, .dt h _ hs, a, m => by
    rcases List.mem_cons.mp m with e | m
    · subst e; exact ⟨_, h⟩
    · exact CRs.there hs a m
  | _, _, _, .fk _ _ _, _, h => nomatch h
  | _, _, _, .ft _ _ _, _, h => nomatch h
  | _, _, _, .deck _, _, h => nomatch h
  | _, _, _, .fn _ _ _, _, h => nomatch h
theorem CRs.there : ∀ {vs : List V} {cs : List Cell} {fp : List Addr}, CRs K da F H vs cs fp → ∀ a ∈ fp, ∃ o, H a = some o
  | _, _, _, .nil, _, h => nomatch h
  | _, _, _, .cons h hs, a, m => by
    rcases List.mem_append.mp m with m | m
    · exact CR.there h a m
    · exact CRs.there hs a m
end
mutual
/-- what is owned is a list or a dict -/
theorem CR.noext : ∀ {v : V} {c : Cell} {fp : List Addr}, CR K da F H v c fp → ∀ a ∈ fp, ∀ φ, H a ≠ some (.ext φ)
  | _, _, _, .un, _, h => nomatch h
  | _, _, _, .im _, _, h => nomatch h
  | _, _, _, .ow h hs, a, m => by
    rcases List.mem_cons.mp m with e | m
    · subst e; intro φ z; rw [h] at z; cases z
    · exact CRs.noext hs a m
  | _, _, _, .dk h _ hs, a, m => by
    rcases List.mem_cons.mp m with e | m
    · subst e; intro φ z; rw [h] at z; cases z
    · exact CRs.noext hs a m
  | _, _, _, .dt h _ hs, a, m => by
    rcases List.mem_cons.mp m with e | m
    · subst e; intro φ z; rw [h] at z; cases z
    · exact CRs.noext hs a m
  | _, _, _, .fk _ _ _, _, h => nomatch h
  | _, _, _, .ft _ _ _, _, h => nomatch h
  | _, _, _, .deck _, _, h => nomatch h
  | _, _, _, .fn _ _ _, _, h => nomatch h
theorem CRs.noext : ∀ {vs : List V} {cs : List Cell} {fp : List Addr}, CRs K da F H vs cs fp → ∀ a ∈ fp, ∀ φ, H a ≠ some (.ext φ)
  | _, _, _, .nil, _, h => nomatch h
  | _, _, _, .cons h hs, a, m => by
    rcases List.mem_append.mp m with m | m
    · exact CR.noext h a m
    · exact CRs.noext hs a m
end
theorem CRs.length : ∀ {vs : List V} {cs : List Cell} {fp : List Addr}, CRs K da F H vs cs fp → vs.length = cs.length
  | _, _, _, .nil => rfl
  | _, _, _, .cons _ hs => by rw [List.length_cons, List.length_cons, CRs.length hs]
theorem CRs.app : ∀ {vs ws : List V} {cs es : List Cell} {fp fq : List Addr}, CRs K da F H vs cs fp → CRs K da F H ws es fq → CRs K da F H (vs ++ ws) (cs ++ es) (fp ++ fq)
  | _, _, _, _, _, _, .nil, h => h
  | _, _, _, _, _, _, .cons h hs, h' => by
    rw [List.append_assoc]
    exact .cons h (CRs.app hs h')
theorem CRs.one {v : V} {c : Cell} {f : List Addr} (h : CR K da F H v c f) : CRs K da F H [v] [c] f := by
  have := CRs.cons h (CRs.nil (K := K) (da := da) (F := F) (H := H))
  rwa [List.append_nil] at this
/-- a list of data as cells -/
theorem CRs.ofDp : ∀ {vs : List V} {ds : List D}, DpAll K F vs ds → CRs K da F H vs (ds.map .im) []
  | _, _, .nil => .nil
  | _, _, .cons h hs => CRs.cons (f := []) (.im h) (CRs.ofDp hs)
theorem CRs.toDp : ∀ {vs : List V} {ds : List D} {fp : List Addr}, CRs K da F H vs (ds.map .im) fp → DpAll K F vs ds ∧ fp = []
  | [], [], _, h => by cases h; exact ⟨.nil, rfl⟩
  | v :: vs, d :: ds, _, h => by
    cases h with
    | cons h hs =>
      cases h with
      | im h =>
        obtain ⟨h1, e⟩ := CRs.toDp hs
        subst e
        exact ⟨.cons h h1, rfl⟩
theorem CRs.get : ∀ {vs : List V} {cs : List Cell} {fp : List Addr} {i : Nat} {c : Cell}, CRs K da F H vs cs fp → cs[i]? = some c → ∃ v f, vs[i]? = some v ∧ CR K da F H v c f ∧ (∀ a ∈ f, a ∈ fp) ∧ (fp.Nodup → f.Nodup)
  | _, _, _, _, _, .nil, e => by simp at e
  | _, _, _, 0, _, .cons h _, e => by
    simp at e; subst e
    exact ⟨_, _, rfl, h, fun a m => List.mem_append_left _ m, fun n => (List.nodup_append.mp n).1⟩
  | _, _, _, i + 1, _, .cons _ hs, e => by
    obtain ⟨v, f, h1, h2, h3, h4⟩ := CRs.get (i := i) hs (by simpa using e)
    exact ⟨v, f, by simpa using h1, h2, fun a m => List.mem_append_right _ (h3 a m), fun n => h4 (List.nodup_append.mp n).2.1⟩
/-- an item replaced: what is owned is at most what was and the new one's -/
theorem CRs.set {v : V} {c : Cell} {f : List Addr} (h : CR K da F H v c f) : ∀ {vs : List V} {cs : List Cell} {fp : List Addr} (i : Nat), CRs K da F H vs cs fp → ∃ fp', CRs K da F H (vs.set i v) (cs.set i c) fp' ∧ (∀ a ∈ fp', a ∈ f ∨ a ∈ fp) ∧ ((f ++ fp).Nodup → fp'.Nodup)
  | _, _, _, _, .nil => ⟨[], .nil, fun _ z => (nomatch z), fun _ => List.nodup_nil⟩
  | _, _, _, 0, .cons (f := f0) (fp := fp0) _ hs => ⟨f ++ fp0, .cons h hs, fun a m => by
      rcases List.mem_append.mp m with m | m
      · exact .inl m
      · exact .inr (List.mem_append_right _ m), fun n => by
      obtain ⟨n1, n2, n3⟩ := List.nodup_append.mp n
      exact List.nodup_append.mpr ⟨n1, (List.nodup_append.mp n2).2.1, fun a ha b hb => n3 a ha b (List.mem_append_right _ hb)⟩⟩
  | _, _, _, i + 1, .cons (f := f0) (fp := fp0) h0 hs => by
    obtain ⟨fp', q1, q2, q3⟩ := CRs.set h i hs
    refine ⟨f0 ++ fp', .cons h0 q1, fun a m => ?_, fun n => ?_⟩
    · rcases List.mem_append.mp m with m | m
      · exact .inr (List.mem_append_left _ m)
      · rcases q2 a m with m | m
        · exact .inl m
        · exact .inr (List.mem_append_right _ m)
    · obtain ⟨n1, n2, n3⟩ := List.nodup_append.mp n
      obtain ⟨n4, n5, n6⟩ := List.nodup_append.mp n2
      refine List.nodup_append.mpr ⟨n4, q3 (List.nodup_append.mpr ⟨n1, n5, fun a ha b hb => n3 a ha b (List.mem_append_right _ hb)⟩), fun a ha b hb e => ?_⟩
      rcases q2 b hb with m | m
      · exact n3 b m a (List.mem_append_left _ ha) e.symm
      · exact n6 a ha b m e
end
mutual
def toD : Cell → Option D
  | .im d => some d
  | .ow cs => (toDs cs).map .list
  | _ => none
def toDs : List Cell → Option (List D)
  | [] => some []
  | c :: cs => match toD c, toDs cs with
    | some d, some ds => some (d :: ds)
    | _, _ => none
end
mutual
/-- a cell, frozen -/
def frz : Cell → Cell
  | .ow cs => match toDs cs with
    | some ds => .im (.list ds)
    | none => .un
  | .dk ks cs => .fk ks (frzs cs)
  | .dt ks cs => .ft ks (frzs cs)
  | .im d => .im d
  | .fk ks cs => .fk ks cs
  | .ft ks cs => .ft ks cs
  | .deck => .deck
  | .fn L ds => .fn L ds
  | .un => .un
@[simp] def frzs : List Cell → List Cell
  | [] => []
  | c :: cs => frz c :: frzs cs
end
theorem toDs_im : ∀ ds : List D, toDs (ds.map .im) = some ds
  | [] => by simp [toDs]
  | d :: ds => by simp [toDs, toD, toDs_im ds]
@[simp] theorem frz_ow_im (ds : List D) : frz (.ow (ds.map .im)) = .im (.list ds) := by simp [frz, toDs_im]
/-- the frozen part with what stands in H at fp -/
def addF (F H : Hp) (fp : List Addr) : Hp := fun a => if a ∈ fp then H a else F a
section
variable {K : PySem.W.Frag} {da : Option Addr} {F H : Hp}
theorem addF_in {fp : List Addr} {a : Addr} (h : a ∈ fp) : addF F H fp a = H a := by unfold addF; rw [if_pos h]
theorem addF_out {fp : List Addr} {a : Addr} (h : a ∉ fp) : addF F H fp a = F a := by unfold addF; rw [if_neg h]
theorem addF_same {fp : List Addr} (h : ∀ a ∈ fp, F a = none) : Same F (addF F H fp) := fun a o e => by
  by_cases m : a ∈ fp
  · rw [h a m] at e; cases e
  · rw [addF_out m]; exact e
theorem addF_sub {fp : List Addr} (s : Same F H) : Same (addF F H fp) H := fun a o e => by
  by_cases m : a ∈ fp
  · rwa [addF_in m] at e
  · rw [addF_out m] at e; exact s a o e
theorem addF_mono {fp fq : List Addr} (s : Same F H) (h : ∀ a ∈ fp, a ∈ fq) : Same (addF F H fp) (addF F H fq) := fun a o e => by
  by_cases m : a ∈ fq
  · rw [addF_in m]; exact addF_sub s a o e
  · rw [addF_out m]; rwa [addF_out (fun z => m (h a z))] at e
mutual
theorem CR.dp (s : Same F H) : ∀ {v : V} {c : Cell} {fp : List Addr} {d : D}, CR K da F H v c fp → toD c = some d → Dp K (addF F H fp) v d
  | _, _, _, _, .un, e => by simp [toD] at e
  | _, _, _, _, .im h, e => by
    simp [toD] at e; subst e
    have z : addF F H [] = F := by funext a; simp [addF]
    rw [z]; exact h
  | _, _, _, _, .ow (fp := fp) h hs, e => by
    simp only [toD, Option.map_eq_some_iff] at e
    obtain ⟨ds, e1, e2⟩ := e
    subst e2
    refine .lst (.inl (.inl ?_)) (DpAll.mono (addF_mono s fun a m => List.mem_cons_of_mem _ m) (CRs.dps s hs e1))
    rw [addF_in List.mem_cons_self]; exact h
  | _, _, _, _, .dk _ _ _, e => by simp [toD] at e
  | _, _, _, _, .dt _ _ _, e => by simp [toD] at e
  | _, _, _, _, .fk _ _ _, e => by simp [toD] at e
  | _, _, _, _, .ft _ _ _, e => by simp [toD] at e
  | _, _, _, _, .deck _, e => by simp [toD] at e
  | _, _, _, _, .fn _ _ _, e => by simp [toD] at e
theorem CRs.dps (s : Same F H) : ∀ {vs : List V} {cs : List Cell} {fp : List Addr} {ds : List D}, CRs K da F H vs cs fp → toDs cs = some ds → DpAll K (addF F H fp) vs ds
  | _, _, _, _, .nil, e => by simp [toDs] at e; subst e; exact .nil
  | _, _, _, _, .cons (c := c) (cs := cs) h hs, e => by
    unfold toDs at e
    split at e
    · rename_i d ds e1 e2
      injection e with e; subst e
      exact .cons (Dp.mono (addF_mono s fun a m => List.mem_append_left _ m) (CR.dp s h e1)) (DpAll.mono (addF_mono s fun a m => List.mem_append_right _ m) (CRs.dps s hs e2))
    · cases e
end
mutual
theorem CR.fz (s : Same F H) : ∀ {v : V} {c : Cell} {fp : List Addr}, CR K da F H v c fp → CR K da (addF F H fp) H v (frz c) []
  | _, _, _, .un => by unfold frz; exact .un
  | _, _, _, .im h => by
    have z : addF F H [] = F := by funext a; simp [addF]
    rw [z]; unfold frz; exact .im h
  | _, _, _, .ow (cs := cs) h hs => by
    unfold frz
    split
    · rename_i ds e
      exact .im (CR.dp s (.ow h hs) (by simp [toD, e]))
    · exact .un
  | _, _, _, .dk h l hs => by
    unfold frz
    exact .fk (by rw [addF_in List.mem_cons_self]; exact h) l (CRs.mono (addF_mono s fun a m => List.mem_cons_of_mem _ m) (CRs.fzs s hs) fun _ z => nomatch z)
  | _, _, _, .dt h l hs => by
    unfold frz
    exact .ft (by rw [addF_in List.mem_cons_self]; exact h) l (CRs.mono (addF_mono s fun a m => List.mem_cons_of_mem _ m) (CRs.fzs s hs) fun _ z => nomatch z)
  | _, _, _, .fk h l hs => by
    have z : addF F H [] = F := by funext a; simp [addF]
    rw [z]; unfold frz; exact .fk h l hs
  | _, _, _, .ft h l hs => by
    have z : addF F H [] = F := by funext a; simp [addF]
    rw [z]; unfold frz; exact .ft h l hs
  | _, _, _, .deck h => by unfold frz; exact .deck h
  | _, _, _, .fn h1 h2 h3 => by
    have z : addF F H [] = F := by funext a; simp [addF]
    rw [z]; unfold frz; exact .fn h1 h2 h3
theorem CRs.fzs (s : Same F H) : ∀ {vs : List V} {cs : List Cell} {fp : List Addr}, CRs K da F H vs cs fp → CRs K da (addF F H fp) H vs (frzs cs) []
  | _, _, _, .nil => by unfold frzs; exact .nil
  | _, _, _, .cons h hs => by
    unfold frzs
    exact CRs.cons (f := []) (CR.mono (addF_mono s fun a m => List.mem_append_left _ m) (CR.fz s h) fun _ z => nomatch z) (CRs.mono (addF_mono s fun a m => List.mem_append_right _ m) (CRs.fzs s hs) fun _ z => nomatch z)
end
end
end DL
set_option maxHeartbeats 1000000
namespace DL
open PySem PySem.Spec PyProof.Rows L2
/-- what is one for all defs: the deck's keys, the tables of code objects with the names that they tell -/
structure Dn where
  k : Str × Str × Str
  tb : List (Addr × Str)
/-- a def's base: the heap and the frozen part at its entry, the deck (its dict, its list of cells) -/
structure Bs where
  G : Hp
  F0 : Hp
  da : Option (Addr × Addr)
  dn : Dn
def Bs.deck (B : Bs) : List Addr := match B.da with
  | none => []
  | some (a, c) => [a, c]
/-- what is shared and may change -/
def Bs.ms (B : Bs) : List Addr := B.dn.tb.map (·.1) ++ B.deck
abbrev Bs.dd (B : Bs) : Option Addr := B.da.map (·.1)
def DeckP (B : Bs) (H : Hp) : Prop := match B.da with
  | none => True
  | some (a, c) => a ≠ c ∧ ∃ (ns : List Int) (m t : Int), H a = some (.dK [(.inr B.dn.k.1, .ref c), (.inr B.dn.k.2.1, .int m), (.inr B.dn.k.2.2, .int t)]) ∧ H c = some (.lst (ns.map V.int)) ∧ ns.length ≤ 64
def DeckOk (B : Bs) (H : Hp) : Prop := LamX.Tabs B.dn.tb H ∧ DeckP B H
theorem DeckP.there {B : Bs} {H : Hp} (h : DeckP B H) : ∀ a ∈ B.deck, ∃ o, H a = some o := by
  unfold DeckP at h
  unfold Bs.deck
  intro a m
  cases e : B.da with
  | none => rw [e] at m; cases m
  | some p =>
    obtain ⟨x, y⟩ := p
    rw [e] at h m
    obtain ⟨_, ns, mm, t, h1, h2, _⟩ := h
    simp only [List.mem_cons, List.not_mem_nil, or_false] at m
    rcases m with rfl | rfl
    · exact ⟨_, h1⟩
    · exact ⟨_, h2⟩
theorem DeckOk.there {B : Bs} {H : Hp} (h : DeckOk B H) : ∀ a ∈ B.ms, ∃ o, H a = some o := by
  intro a m
  rcases List.mem_append.mp m with m | m
  · obtain ⟨p, hp, e⟩ := List.mem_map.mp m
    subst e
    obtain ⟨ps, e, _⟩ := h.1 p hp
    exact ⟨_, e⟩
  · exact h.2.there a m
theorem DeckP.keep {B : Bs} {H H' : Hp} (h : DeckP B H) (k : ∀ a ∈ B.deck, H' a = H a) : DeckP B H' := by
  unfold DeckP at h ⊢
  unfold Bs.deck at k
  cases e : B.da with
  | none => trivial
  | some p =>
    obtain ⟨x, y⟩ := p
    rw [e] at h k
    obtain ⟨ne, ns, mm, t, h1, h2, h3⟩ := h
    exact ⟨ne, ns, mm, t, (k x (by simp)).trans h1, (k y (by simp)).trans h2, h3⟩
theorem DeckOk.keep {B : Bs} {H H' : Hp} (h : DeckOk B H) (k : ∀ a ∈ B.ms, H' a = H a) (kc : ∀ a q, H a = some (LamX.CodeO a q) → H' a = some (LamX.CodeO a q)) : DeckOk B H' := by
  refine ⟨fun p hp => ?_, h.2.keep fun a m => k a (List.mem_append_right _ m)⟩
  obtain ⟨ps, h1, h2, h3⟩ := h.1 p hp
  refine ⟨ps, (k _ (List.mem_append_left _ (List.mem_map_of_mem hp))).trans h1, h2, fun pos cv hc => ?_⟩
  obtain ⟨c, e1, e2⟩ := h3 pos cv hc
  exact ⟨c, e1, kc _ _ e2⟩
theorem DeckOk.noext {B : Bs} {H : Hp} (h : DeckOk B H) : ∀ a ∈ B.ms, ∀ φ, H a ≠ some (.ext φ) := by
  intro a m φ z
  rcases List.mem_append.mp m with m | m
  · obtain ⟨p, hp, e⟩ := List.mem_map.mp m
    subst e
    obtain ⟨ps, e, _⟩ := h.1 p hp
    rw [e] at z; cases z
  · have d := h.2
    unfold DeckP at d
    unfold Bs.deck at m
    cases e : B.da with
    | none => rw [e] at m; cases m
    | some p =>
      obtain ⟨x, y⟩ := p
      rw [e] at d m
      obtain ⟨_, ns, mm, t, h1, h2, _⟩ := d
      simp only [List.mem_cons, List.not_mem_nil, or_false] at m
      rcases m with rfl | rfl
      · rw [h1] at z; cases z
      · rw [h2] at z; cases z
inductive SlotsR (K : PySem.W.Frag) (da : Option Addr) (F H : Hp) : List (Option V) → List Cell → List Addr → Prop
  | nil : SlotsR K da F H [] [] []
  | no {o : Option V} {σ : List (Option V)} {γ : List Cell} {fp : List Addr} : SlotsR K da F H σ γ fp → SlotsR K da F H (o :: σ) (.un :: γ) fp
  | so {v : V} {σ : List (Option V)} {c : Cell} {γ : List Cell} {f fp : List Addr} : CR K da F H v c f → SlotsR K da F H σ γ fp → SlotsR K da F H (some v :: σ) (c :: γ) (f ++ fp)
section
variable {K : PySem.W.Frag} {da : Option Addr} {F H F' H' : Hp}
theorem SlotsR.mono (e : Same F F') : ∀ {σ : List (Option V)} {γ : List Cell} {fp : List Addr}, SlotsR K da F H σ γ fp → (∀ a ∈ fp, ∀ o, H a = some o → H' a = some o) → SlotsR K da F' H' σ γ fp
  | _, _, _, .nil, _ => .nil
  | _, _, _, .no hs, k => .no (SlotsR.mono e hs k)
  | _, _, _, .so h hs, k => .so (h.mono e fun a m => k a (List.mem_append_left _ m)) (SlotsR.mono e hs fun a m => k a (List.mem_append_right _ m))
theorem SlotsR.there : ∀ {σ : List (Option V)} {γ : List Cell} {fp : List Addr}, SlotsR K da F H σ γ fp → ∀ a ∈ fp, ∃ o, H a = some o
  | _, _, _, .nil, _, m => nomatch m
  | _, _, _, .no hs, a, m => SlotsR.there hs a m
  | _, _, _, .so h hs, a, m => by
    rcases List.mem_append.mp m with m | m
    · exact h.there a m
    · exact SlotsR.there hs a m
theorem SlotsR.length : ∀ {σ : List (Option V)} {γ : List Cell} {fp : List Addr}, SlotsR K da F H σ γ fp → σ.length = γ.length
  | _, _, _, .nil => rfl
  | _, _, _, .no hs => by rw [List.length_cons, List.length_cons, SlotsR.length hs]
  | _, _, _, .so _ hs => by rw [List.length_cons, List.length_cons, SlotsR.length hs]
theorem SlotsR.get : ∀ {σ : List (Option V)} {γ : List Cell} {fp : List Addr} {i : Nat} {c : Cell}, SlotsR K da F H σ γ fp → γ[i]? = some c → c ≠ .un → ∃ v f, σ[i]? = some (some v) ∧ CR K da F H v c f ∧ (∀ a ∈ f, a ∈ fp) ∧ (fp.Nodup → f.Nodup)
  | _, _, _, _, _, .nil, e, _ => by simp at e
  | _, _, _, 0, _, .no _, e, n => by simp at e; exact absurd e.symm n
  | _, _, _, 0, _, .so h _, e, _ => by
    simp at e; subst e
    exact ⟨_, _, rfl, h, fun a m => List.mem_append_left _ m, fun n => (List.nodup_append.mp n).1⟩
  | _, _, _, i + 1, _, .no hs, e, n => by
    obtain ⟨v, f, h1, h2, h3, h4⟩ := SlotsR.get (i := i) hs (by simpa using e) n
    exact ⟨v, f, by simpa using h1, h2, h3, h4⟩
  | _, _, _, i + 1, _, .so _ hs, e, n => by
    obtain ⟨v, f, h1, h2, h3, h4⟩ := SlotsR.get (i := i) hs (by simpa using e) n
    exact ⟨v, f, by simpa using h1, h2, fun a m => List.mem_append_right _ (h3 a m), fun n => h4 (List.nodup_append.mp n).2.1⟩
/-- a slot forgotten -/
theorem SlotsR.drop : ∀ {σ : List (Option V)} {γ : List Cell} {fp : List Addr} (i : Nat) (o : Option V), SlotsR K da F H σ γ fp → ∃ fp', SlotsR K da F H (σ.set i o) (γ.set i .un) fp' ∧ (∀ a ∈ fp', a ∈ fp) ∧ (fp.Nodup → fp'.Nodup)
  | _, _, _, _, _, .nil => ⟨[], .nil, fun _ z => (nomatch z), fun _ => List.nodup_nil⟩
  | _, _, _, 0, _, .no hs => ⟨_, .no hs, fun _ z => z, fun n => n⟩
  | _, _, _, 0, _, .so _ hs => ⟨_, .no hs, fun _ z => List.mem_append_right _ z, fun n => (List.nodup_append.mp n).2.1⟩
  | _, _, _, i + 1, o, .no hs => by
    obtain ⟨fp', q1, q2, q3⟩ := SlotsR.drop i o hs
    exact ⟨fp', .no q1, q2, q3⟩
  | _, _, _, i + 1, o, .so (f := f) h hs => by
    obtain ⟨fp', q1, q2, q3⟩ := SlotsR.drop i o hs
    refine ⟨f ++ fp', .so h q1, fun a m => ?_, fun n => ?_⟩
    · rcases List.mem_append.mp m with m | m
      · exact List.mem_append_left _ m
      · exact List.mem_append_right _ (q2 a m)
    · obtain ⟨n1, n2, n3⟩ := List.nodup_append.mp n
      exact List.nodup_append.mpr ⟨n1, q3 n2, fun a ha b hb => n3 a ha b (q2 b hb)⟩
/-- a slot stored -/
theorem SlotsR.set {v : V} {c : Cell} {f : List Addr} (h : CR K da F H v c f) : ∀ {σ : List (Option V)} {γ : List Cell} {fp : List Addr} (i : Nat), SlotsR K da F H σ γ fp → ∃ fp', SlotsR K da F H (σ.set i (some v)) (γ.set i c) fp' ∧ (∀ a ∈ fp', a ∈ f ∨ a ∈ fp) ∧ ((f ++ fp).Nodup → fp'.Nodup)
  | _, _, _, _, .nil => ⟨[], .nil, fun _ z => (nomatch z), fun _ => List.nodup_nil⟩
  | _, _, _, 0, .no (fp := fp) hs => ⟨f ++ fp, .so h hs, fun a m => List.mem_append.mp m, fun n => n⟩
  | _, _, _, 0, .so (f := f0) (fp := fp0) _ hs => ⟨f ++ fp0, .so h hs, fun a m => by
      rcases List.mem_append.mp m with m | m
      · exact .inl m
      · exact .inr (List.mem_append_right _ m), fun n => by
      obtain ⟨n1, n2, n3⟩ := List.nodup_append.mp n
      exact List.nodup_append.mpr ⟨n1, (List.nodup_append.mp n2).2.1, fun a ha b hb => n3 a ha b (List.mem_append_right _ hb)⟩⟩
  | _, _, _, i + 1, .no hs => by
    obtain ⟨fp', q1, q2, q3⟩ := SlotsR.set h i hs
    exact ⟨fp', .no q1, q2, q3⟩
  | _, _, _, i + 1, .so (f := f0) (fp := fp0) h0 hs => by
    obtain ⟨fp', q1, q2, q3⟩ := SlotsR.set h i hs
    refine ⟨f0 ++ fp', .so h0 q1, fun a m => ?_, fun n => ?_⟩
    · rcases List.mem_append.mp m with m | m
      · exact .inr (List.mem_append_left _ m)
      · rcases q2 a m with m | m
        · exact .inl m
        · exact .inr (List.mem_append_right _ m)
    · obtain ⟨n1, n2, n3⟩ := List.nodup_append.mp n
      obtain ⟨n4, n5, n6⟩ := List.nodup_append.mp n2
      refine List.nodup_append.mpr ⟨n4, q3 (List.nodup_append.mpr ⟨n1, n5, fun a ha b hb => n3 a ha b (List.mem_append_right _ hb)⟩), fun a ha b hb e => ?_⟩
      rcases q2 b hb with m | m
      · exact n3 b m a (List.mem_append_left _ ha) e.symm
      · exact n6 a ha b m e
/-- the objects of one slot change, all else stands: f' is within f or new -/
theorem SlotsR.change : ∀ {σ : List (Option V)} {γ : List Cell} {fp : List Addr} {i : Nat} {c : Cell}, SlotsR K da F H σ γ fp → fp.Nodup → γ[i]? = some c → c ≠ .un →
    ∃ v f, σ[i]? = some (some v) ∧ CR K da F H v c f ∧ f.Nodup ∧ (∀ a ∈ f, a ∈ fp) ∧
      ∀ (F' H' : Hp) (c' : Cell) (f' : List Addr), Same F F' → (∀ a, a ∈ fp → a ∉ f → H' a = H a) → CR K da F' H' v c' f' → f'.Nodup → (∀ a ∈ f', a ∈ f ∨ a ∉ fp) → ∃ fp', SlotsR K da F' H' σ (γ.set i c') fp' ∧ fp'.Nodup ∧ ∀ a ∈ fp', a ∈ f' ∨ (a ∈ fp ∧ a ∉ f)
  | _, _, _, _, _, .nil, _, e, _ => by simp at e
  | _, _, _, 0, _, .no _, _, e, n => by simp at e; exact absurd e.symm n
  | _, _, _, 0, _, .so (f := f) (fp := fp) h hs, nd, e, _ => by
    simp at e; subst e
    obtain ⟨n1, n2, n3⟩ := List.nodup_append.mp nd
    refine ⟨_, f, rfl, h, n1, fun a m => List.mem_append_left _ m, fun F' H' c' f' sF k h' nd' out => ?_⟩
    refine ⟨f' ++ fp, .so h' (hs.mono sF fun a m o eo => by rw [k a (List.mem_append_right _ m) fun z => n3 a z a m rfl]; exact eo), ?_, fun a m => ?_⟩
    · refine List.nodup_append.mpr ⟨nd', n2, fun a ha b hb e => ?_⟩
      subst e
      rcases out a ha with z | z
      · exact n3 a z a hb rfl
      · exact z (List.mem_append_right _ hb)
    · rcases List.mem_append.mp m with m | m
      · exact .inl m
      · exact .inr ⟨List.mem_append_right _ m, fun z => n3 a z a m rfl⟩
  | _, _, _, i + 1, _, .no hs, nd, e, n => by
    obtain ⟨v, f, h1, h2, h3, h4, h5⟩ := SlotsR.change (i := i) hs nd (by simpa using e) n
    refine ⟨v, f, by simpa using h1, h2, h3, h4, fun F' H' c' f' sF k h' nd' out => ?_⟩
    obtain ⟨fp', q1, q2, q3⟩ := h5 F' H' c' f' sF k h' nd' out
    exact ⟨fp', .no q1, q2, q3⟩
  | _, _, _, i + 1, _, .so (f := f0) (fp := fp0) h0 hs, nd, e, n => by
    obtain ⟨n1, n2, n3⟩ := List.nodup_append.mp nd
    obtain ⟨v, f, h1, h2, h3, h4, h5⟩ := SlotsR.change (i := i) hs n2 (by simpa using e) n
    refine ⟨v, f, by simpa using h1, h2, h3, fun a m => List.mem_append_right _ (h4 a m), fun F' H' c' f' sF k h' nd' out => ?_⟩
    obtain ⟨fp', q1, q2, q3⟩ := h5 F' H' c' f' sF (fun a m nf => k a (List.mem_append_right _ m) nf) h' nd' fun a m => by
      rcases out a m with z | z
      · exact .inl z
      · exact .inr fun y => z (List.mem_append_right _ y)
    refine ⟨f0 ++ fp', .so (h0.mono sF fun a m o eo => by rw [k a (List.mem_append_left _ m) fun z => n3 a m a (h4 a z) rfl]; exact eo) q1, ?_, fun a m => ?_⟩
    · refine List.nodup_append.mpr ⟨n1, q2, fun a ha b hb e => ?_⟩
      subst e
      rcases q3 a hb with z | z
      · rcases out a z with y | y
        · exact n3 a ha a (h4 a y) rfl
        · exact y (List.mem_append_left _ ha)
      · exact n3 a ha a z.1 rfl
    · rcases List.mem_append.mp m with m | m
      · exact .inr ⟨List.mem_append_left _ m, fun z => n3 a m a (h4 a z) rfl⟩
      · rcases q3 a m with z | z
        · exact .inl z
        · exact .inr ⟨List.mem_append_right _ z.1, z.2⟩
theorem SlotsR.ofCRs : ∀ {vs : List V} {cs : List Cell} {fp : List Addr} (n : Nat), CRs K da F H vs cs fp → SlotsR K da F H (vs.map some ++ List.replicate n none) (cs ++ List.replicate n .un) fp
  | _, _, _, 0, .nil => .nil
  | _, _, _, n + 1, .nil => .no (SlotsR.ofCRs (vs := []) (cs := []) n .nil)
  | _, _, _, n, .cons h hs => .so h (SlotsR.ofCRs n hs)
end
@[simp] def wipeC (γ : List Cell) : List Nat → List Cell
  | [] => γ
  | v :: vs => (wipeC γ vs).set v .un
theorem SlotsR.wipe {K : PySem.W.Frag} {da : Option Addr} {F H : Hp} {σ : L2.St} {γ : List Cell} {fp : List Addr} (h : SlotsR K da F H σ γ fp) : ∀ vs : List Nat, ∃ fp', SlotsR K da F H (wipe σ vs) (wipeC γ vs) fp' ∧ (∀ a ∈ fp', a ∈ fp) ∧ (fp.Nodup → fp'.Nodup)
  | [] => ⟨fp, h, fun _ z => z, fun n => n⟩
  | v :: vs => by
    obtain ⟨fp', q1, q2, q3⟩ := SlotsR.wipe h vs
    obtain ⟨fq, r1, r2, r3⟩ := q1.drop v none
    exact ⟨fq, r1, fun a m => q2 a (r2 a m), fun n => r3 (q3 n)⟩
structure Go (B : Bs) (F H F' H' : Hp) : Prop where
  ff : Same F F'
  hh : ∀ a o, a ∉ B.ms → H a = some o → H' a = some o
  nw : ∀ a, F a = none → H a ≠ none → F' a = none
  sub : Same F' H'
  dk : DeckOk B H'
theorem Go.refl {B : Bs} {F H : Hp} (s : Same F H) (d : DeckOk B H) : Go B F H F H := ⟨Same.refl F, fun _ _ _ h => h, fun _ h _ => h, s, d⟩
theorem Go.there {B : Bs} {F H F' H' : Hp} (g : Go B F H F' H') {a : Addr} (h : H a ≠ none) : H' a ≠ none := by
  by_cases m : a ∈ B.ms
  · obtain ⟨o, e⟩ := g.dk.there a m
    rw [e]; exact fun z => by cases z
  · cases e : H a with
    | none => exact absurd e h
    | some o => rw [g.hh a o m e]; exact fun z => by cases z
theorem Go.none {B : Bs} {F H F' H' : Hp} (g : Go B F H F' H') {a : Addr} (h : H' a = none) : H a = none := by
  cases e : H a with
  | none => rfl
  | some o => exact absurd h (g.there (by rw [e]; exact fun z => by cases z))
theorem Go.trans {B : Bs} {F H F1 H1 F2 H2 : Hp} (a : Go B F H F1 H1) (b : Go B F1 H1 F2 H2) : Go B F H F2 H2 :=
  ⟨a.ff.trans b.ff, fun x o m h => b.hh x o m (a.hh x o m h), fun x h n => b.nw x (a.nw x h n) (a.there n), b.sub, b.dk⟩
theorem same_upd {F H : Hp} {p : Addr} {o : HO} (s : Same F H) (h : H p = none) : Same F (upd H p o) := fun a x e => by
  rw [upd_ne (ne_of_none (s a x e) h)]; exact s a x e
theorem DeckOk.upd {B : Bs} {H : Hp} {p : Addr} {o : HO} (d : DeckOk B H) (h : H p = none) : DeckOk B (upd H p o) := d.keep (fun a m => by
  obtain ⟨x, e⟩ := d.there a m
  exact upd_ne (ne_of_none e h)) fun a _ e => by rw [upd_ne (ne_of_none e h)]; exact e
/-- a new object, owned -/
theorem Go.new {B : Bs} {F H : Hp} {p : Addr} {o : HO} (s : Same F H) (d : DeckOk B H) (h : H p = Option.none) : Go B F H F (L2.upd H p o) :=
  ⟨Same.refl F, fun a x _ e => by rw [upd_ne (ne_of_none e h)]; exact e, fun _ e _ => e, same_upd s h, d.upd h⟩
/-- a new object, frozen -/
theorem Go.newF {B : Bs} {F H : Hp} {p : Addr} {o : HO} (s : Same F H) (d : DeckOk B H) (h : H p = Option.none) : Go B F H (L2.upd F p o) (L2.upd H p o) := by
  have hf : F p = Option.none := by
    cases e : F p with
    | none => rfl
    | some x => rw [s p x e] at h; cases h
  refine ⟨fun a x e => by rw [upd_ne (ne_of_none e hf)]; exact e, fun a x _ e => by rw [upd_ne (ne_of_none e h)]; exact e, fun a e n => ?_, fun a x e => ?_, d.upd h⟩
  · by_cases z : a = p
    · subst z; exact absurd h n
    · rw [upd_ne z]; exact e
  · by_cases z : a = p
    · subst z; rw [upd_same] at e ⊢; exact e
    · rw [upd_ne z] at e ⊢; exact s a x e
/-- what is fresh, frozen -/
theorem Go.addF {B : Bs} {F H F1 H1 : Hp} {fp : List Addr} (g : Go B F H F1 H1) (h : ∀ a ∈ fp, H a = Option.none ∧ F1 a = Option.none) : Go B F H (addF F1 H1 fp) H1 :=
  ⟨g.ff.trans (addF_same fun a m => (h a m).2), g.hh, fun a e n => by
    rw [addF_out fun m => n (h a m).1]; exact g.nw a e n, addF_sub g.sub, g.dk⟩
theorem not_ms {B : Bs} {H : Hp} (d : DeckOk B H) {a : Addr} (h : H a = none) : a ∉ B.ms := fun m => by
  obtain ⟨o, e⟩ := d.there a m
  rw [e] at h; cases h
structure Rel (K : PySem.W.Frag) (B : Bs) (γ : List Cell) (F H : Hp) (σ : L2.St) : Prop where
  go : Go B B.F0 B.G F H
  mf : ∀ a ∈ B.ms, F a = none
  mg : ∀ a ∈ B.ms, B.G a ≠ none
  sl : ∃ fp, SlotsR K B.dd F H σ γ fp ∧ fp.Nodup ∧ ∀ a ∈ fp, F a = none ∧ B.G a = none
section
variable {K : PySem.W.Frag} {B : Bs} {γ : List Cell} {F H F' H' : Hp} {σ : L2.St}
theorem Rel.sub (R : Rel K B γ F H σ) : Same F H := R.go.sub
theorem Rel.dk (R : Rel K B γ F H σ) : DeckOk B H := R.go.dk
theorem Rel.refl (R : Rel K B γ F H σ) : Go B F H F H := Go.refl R.sub R.dk
theorem Rel.fpms (R : Rel K B γ F H σ) {a : Addr} (h : B.G a = none) : a ∉ B.ms := fun m => R.mg a m h
theorem Rel.step (R : Rel K B γ F H σ) (g : Go B F H F' H') : Rel K B γ F' H' σ := by
  obtain ⟨fp, h1, h2, h3⟩ := R.sl
  refine ⟨R.go.trans g, fun a m => g.nw a (R.mf a m) ?_, R.mg, fp, h1.mono g.ff fun a m o e => g.hh a o (R.fpms (h3 a m).2) e, h2, fun a m => ⟨g.nw a (h3 a m).1 ?_, (h3 a m).2⟩⟩
  · obtain ⟨o, e⟩ := R.dk.there a m
    rw [e]; exact fun z => by cases z
  · obtain ⟨o, e⟩ := h1.there a m
    rw [e]; exact fun z => by cases z
theorem Rel.len (R : Rel K B γ F H σ) : σ.length = γ.length := let ⟨_, h, _⟩ := R.sl; h.length
theorem Rel.get (R : Rel K B γ F H σ) {i : Nat} {c : Cell} (e : γ[i]? = some c) (n : c ≠ .un) : ∃ v f, σ[i]? = some (some v) ∧ CR K B.dd F H v c f ∧ f.Nodup ∧ ∀ a ∈ f, F a = none ∧ B.G a = none ∧ a ∉ B.ms := by
  obtain ⟨fp, h1, h2, h3⟩ := R.sl
  obtain ⟨v, f, q1, q2, q3, q4⟩ := h1.get e n
  exact ⟨v, f, q1, q2, q4 h2, fun a m => ⟨(h3 a (q3 a m)).1, (h3 a (q3 a m)).2, R.fpms (h3 a (q3 a m)).2⟩⟩
theorem Rel.wipe (R : Rel K B γ F H σ) (vs : List Nat) : Rel K B (wipeC γ vs) F H (wipe σ vs) := by
  obtain ⟨fp, h1, h2, h3⟩ := R.sl
  obtain ⟨fp', q1, q2, q3⟩ := h1.wipe vs
  exact ⟨R.go, R.mf, R.mg, fp', q1, q3 h2, fun a m => h3 a (q2 a m)⟩
/-- a slot stored: what was fresh ahead of the evaluation -/
theorem Rel.set (R : Rel K B γ F H σ) (g : Go B F H F' H') {v : V} {c : Cell} {f : List Addr} (h : CR K B.dd F' H' v c f) (nd : f.Nodup) (fr : ∀ a ∈ f, H a = none ∧ F' a = none) (i : Nat) : Rel K B (γ.set i c) F' H' (σ.set i (some v)) := by
  have R' := R.step g
  obtain ⟨fp, h1, h2, h3⟩ := R.sl
  have h1' : SlotsR K B.dd F' H' σ γ fp := h1.mono g.ff fun a m o e => g.hh a o (R.fpms (h3 a m).2) e
  obtain ⟨fp', q1, q2, q3⟩ := h1'.set h i
  refine ⟨R'.go, R'.mf, R'.mg, fp', q1, q3 (List.nodup_append.mpr ⟨nd, h2, fun a ha b hb e => ?_⟩), fun a m => ?_⟩
  · subst e
    obtain ⟨o, z⟩ := h1.there a hb
    rw [(fr a ha).1] at z; cases z
  · rcases q2 a m with m | m
    · exact ⟨(fr a m).2, R.go.none (fr a m).1⟩
    · refine ⟨g.nw a (h3 a m).1 ?_, (h3 a m).2⟩
      obtain ⟨o, e⟩ := h1.there a m
      rw [e]; exact fun z => by cases z
theorem Rel.setD (R : Rel K B γ F H σ) {v : V} {d : D} (h : Dp K F v d) (i : Nat) : Rel K B (γ.set i (.im d)) F H (σ.set i (some v)) :=
  R.set R.refl (.im h) List.nodup_nil (fun _ z => (nomatch z)) i
/-- a slot frozen -/
theorem Rel.fz (R : Rel K B γ F H σ) (i : Nat) : ∃ F', Same F F' ∧ Rel K B (γ.set i (frz (γ.getD i .un))) F' H σ := by
  cases e : γ[i]? with
  | none =>
    refine ⟨F, Same.refl F, ?_⟩
    rw [List.set_eq_of_length_le (by simpa using e)]
    exact R
  | some c =>
    have hg : γ.getD i .un = c := by rw [List.getD_eq_getElem?_getD, e]; rfl
    rw [hg]
    by_cases hn : c = .un
    · subst hn
      refine ⟨F, Same.refl F, ?_⟩
      have : frz .un = .un := by simp [frz]
      rw [this]
      have z : γ.set i .un = γ := by
        apply List.ext_getElem?
        intro j
        by_cases hj : i = j
        · subst hj
          obtain ⟨hlt, _⟩ := List.getElem?_eq_some_iff.mp e
          rw [List.getElem?_set_self hlt, e]
        · rw [List.getElem?_set_ne hj]
      rw [z]
      exact R
    · obtain ⟨fp, h1, h2, h3⟩ := R.sl
      obtain ⟨v, f, q1, q2, q3, q4, q5⟩ := h1.change h2 e hn
      have hf : ∀ a ∈ f, F a = none := fun a m => (h3 a (q4 a m)).1
      have sm : Same F (addF F H f) := addF_same hf
      obtain ⟨fp', s1, s2, s3⟩ := q5 (addF F H f) H (frz c) [] sm (fun _ _ _ => rfl) (CR.fz R.sub q2) List.nodup_nil (fun _ z => (nomatch z))
      refine ⟨addF F H f, sm, ⟨R.go.ff.trans sm, R.go.hh, fun a e1 n1 => ?_, addF_sub R.sub, R.dk⟩, fun a m => ?_, R.mg, fp', s1, s2, fun a m => ?_⟩
      · rw [addF_out fun m => n1 (h3 a (q4 a m)).2]; exact R.go.nw a e1 n1
      · rw [addF_out fun m' => R.mg a m (h3 a (q4 a m')).2]; exact R.mf a m
      · rcases s3 a m with z | ⟨z, z2⟩
        · exact nomatch z
        · exact ⟨by rw [addF_out z2]; exact (h3 a z).1, (h3 a z).2⟩
end
end DL
set_option maxHeartbeats 1000000
namespace DL
open PySem PySem.Spec PyProof.Rows L2
abbrev XE := List Cell → (Cell → Prop) → Prop
abbrev XT := List Cell → (Bool → Prop) → Prop
abbrev XA := List Cell → (List Cell → Prop) → Prop
/-- no list and no tuple is beyond the line -/
def SzH (K : PySem.W.Frag) (H : Hp) : Prop := ∀ a xs, (SqL K H a xs ∨ SqT K H a xs) → xs.length ≤ sizeLine
theorem inv_sz {X : Cx} {pins : List (Addr × Obj)} {σ : L2.St} {H : Hp} {s : Shared} (I : Inv X pins σ H s) : SzH X.K H := fun a xs h => by
  rcases h with h | h
  · exact (I.list h).choose_spec.2.2
  · exact (I.tuple h).choose_spec.2.2
theorem pe_imp {X : Cx} {e : Expr} {t t' : TE} (h : PE X e t) (k : ∀ σ H Q, t' σ H Q → SzH X.K H → t σ H (fun v H' => SzH X.K H' → Q v H')) : PE X e t' :=
  ⟨fun pins s σ H Q I h' => thn (h.run pins s σ H _ I (k _ _ _ h' (inv_sz I))) fun u s1 ⟨v, H', I', r, q⟩ => ⟨v, H', I', r, q (inv_sz I')⟩⟩
theorem pt_imp {X : Cx} {e : Expr} {t t' : TT} (h : PT X e t) (k : ∀ σ H Q, t' σ H Q → t σ H Q) : PT X e t' :=
  ⟨fun pins s σ H Q I h' => h.run pins s σ H _ I (k _ _ _ h')⟩
theorem pw_imp {X : Cx} {e : Expr} {t t' : TT} (h : PW X e t) (k : ∀ σ H Q, t' σ H Q → t σ H Q) : PW X e t' :=
  ⟨fun wh pins s σ H Q I h' => h.run wh pins s σ H _ I (k _ _ _ h')⟩
theorem pa_imp {X : Cx} {es : List Expr} {t t' : TA} (h : PA X es t) (k : ∀ σ H Q, t' σ H Q → t σ H Q) : PA X es t' :=
  ⟨fun pos pins s σ H Q I h' => h.run pos pins s σ H _ I (k _ _ _ h')⟩
/-- a value to keep: what it owns is fresh -/
def liftE (K : PySem.W.Frag) (B : Bs) (T : XE) : TE := fun σ H Q => ∃ γ F Q', Rel K B γ F H σ ∧ T γ Q' ∧
  ∀ v F' H' c fp, Go B F H F' H' → SzH K H' → CR K B.dd F' H' v c fp → fp.Nodup → (∀ a ∈ fp, H a = none ∧ F' a = none) → Q' c → Q v H'
/-- a value that is read at once -/
def liftR (K : PySem.W.Frag) (B : Bs) (T : XE) : TE := fun σ H Q => ∃ γ F Q', Rel K B γ F H σ ∧ T γ Q' ∧
  ∀ v F' H' c fp, Go B F H F' H' → SzH K H' → CR K B.dd F' H' v c fp → (∀ a ∈ fp, a ∉ B.ms) → Q' c → Q v H'
def liftT (K : PySem.W.Frag) (B : Bs) (T : XT) : TT := fun σ H Q => ∃ γ F Q', Rel K B γ F H σ ∧ T γ Q' ∧ ∀ b F' H', Go B F H F' H' → Q' b → Q b H'
def liftA (K : PySem.W.Frag) (B : Bs) (T : XA) : TA := fun σ H Q => ∃ γ F Q', Rel K B γ F H σ ∧ T γ Q' ∧
  ∀ vs F' H' cs fp, Go B F H F' H' → CRs K B.dd F' H' vs cs fp → fp.Nodup → (∀ a ∈ fp, H a = none ∧ F' a = none) → Q' cs → Q vs H'
def DE (X : Cx) (B : Bs) (e : Expr) (T : XE) : Prop := PE X e (liftE X.K B T)
def DR (X : Cx) (B : Bs) (e : Expr) (T : XE) : Prop := PE X e (liftR X.K B T)
def DT (X : Cx) (B : Bs) (e : Expr) (T : XT) : Prop := PT X e (liftT X.K B T)
def DW (X : Cx) (B : Bs) (e : Expr) (T : XT) : Prop := PW X e (liftT X.K B T)
def DA (X : Cx) (B : Bs) (es : List Expr) (T : XA) : Prop := PA X es (liftA X.K B T)
/-- cells that own nothing -/
def Cell.flat : Cell → Bool
  | .im _ => true
  | .fk _ _ => true
  | .ft _ _ => true
  | .deck => true
  | .fn _ _ => true
  | _ => false
theorem CR.flat {K : PySem.W.Frag} {da : Option Addr} {F H : Hp} {v : V} {c : Cell} {fp : List Addr} (h : CR K da F H v c fp) (f : c.flat = true) : fp = [] := by
  cases h <;> first | rfl | cases f
section
variable {X : Cx} {B : Bs} {e a b : Expr} {T Ta Tb : XE} {pos : Pos}
theorem dr_of_de (h : DE X B e T) : DR X B e T := pe_imp h fun σ H Q ⟨γ, F, Q', R, hT, k⟩ _ =>
  ⟨γ, F, Q', R, hT, fun v F' H' c fp g sz cr _ fr q _ => k v F' H' c fp g sz cr (fun a m => not_ms R.dk (fr a m).1) q⟩
@[simp] def xFlat (T : XE) : XE := fun γ K => T γ fun c => c.flat = true ∧ K c
theorem de_of_dr (h : DR X B e T) : DE X B e (xFlat T) := pe_imp h fun σ H Q ⟨γ, F, Q', R, hT, k⟩ _ =>
  ⟨γ, F, _, R, hT, fun v F' H' c fp g sz cr _ q _ => by
    have z := cr.flat q.1
    subst z
    exact k v F' H' c [] g sz cr List.nodup_nil (fun _ m => nomatch m) q.2⟩
@[simp] def xVar (i : Nat) : XE := fun γ K => ∃ c, γ[i]? = some c ∧ c.flat = true ∧ K c
@[simp] def xVarR (i : Nat) : XE := fun γ K => ∃ c, γ[i]? = some c ∧ c ≠ .un ∧ K c
theorem de_var {i : Nat} {x : Str} (hN : X.N[i]? = some x := by rfl) (hv : Vis X.env.scope x := by first | exact Or.inl rfl | exact Or.inr (Or.inl rfl) | exact Or.inr (Or.inr rfl)) (hd : (x == ("__debug__" : Str)) = false := by decide)
    (hcd : (x == ("__classdict__" : Str)) = false := by decide) : DE X B (.Name x pos) (xVar i) := pe_imp (pe_var hN hv hd hcd) fun σ H Q ⟨γ, F, Q', R, ⟨c, e, fl, q⟩, k⟩ sz => by
  obtain ⟨v, f, h1, h2, h3, h4⟩ := R.get e (by rintro rfl; cases fl)
  have z := h2.flat fl
  subst z
  exact ⟨v, h1, fun sz' => k v F H c [] R.refl sz' h2 List.nodup_nil (fun _ m => nomatch m) q⟩
theorem dr_var {i : Nat} {x : Str} (hN : X.N[i]? = some x := by rfl) (hv : Vis X.env.scope x := by first | exact Or.inl rfl | exact Or.inr (Or.inl rfl) | exact Or.inr (Or.inr rfl)) (hd : (x == ("__debug__" : Str)) = false := by decide)
    (hcd : (x == ("__classdict__" : Str)) = false := by decide) : DR X B (.Name x pos) (xVarR i) := pe_imp (pe_var hN hv hd hcd) fun σ H Q ⟨γ, F, Q', R, ⟨c, e, n, q⟩, k⟩ sz => by
  obtain ⟨v, f, h1, h2, h3, h4⟩ := R.get e n
  exact ⟨v, h1, fun sz' => k v F H c f R.refl sz' h2 (fun a m => (h4 a m).2.2) q⟩
@[simp] def xC (d : D) : XE := fun _ K => K (.im d)
theorem de_const {v : V} {d : D} {e : Expr} (h : PE X e (tC v)) (hd : ∀ F, Dp X.K F v d) : DE X B e (xC d) := pe_imp h fun σ H Q ⟨γ, F, Q', R, q, k⟩ _ =>
  fun sz' => k v F H (.im d) [] R.refl sz' (.im (hd F)) List.nodup_nil (fun _ m => nomatch m) q
theorem de_int {i j} : DE X B (.Constant (.int i) j pos) (xC (.int i)) := de_const pe_int fun _ => .int i
theorem de_bl {b j} : DE X B (.Constant (.bool b) j pos) (xC (.bool b)) := de_const pe_bl fun _ => .bl b
theorem de_non {j} : DE X B (.Constant .none j pos) (xC .none) := de_const pe_non fun _ => .non
theorem de_str {x j} : DE X B (.Constant (.str x) j pos) (xC (.str x)) := de_const pe_str fun _ => .str x
theorem de_glob {x : Str} {v : V} {u : Value} {d : D} (hg : Gl X x) (hm : X.mg x = some u) (r : RelV v u) (hd : ∀ F, Dp X.K F v d) (hdb : (x == ("__debug__" : Str)) = false := by decide) : DE X B (.Name x pos) (xC d) :=
  de_const (pe_glob hg hm r hdb) hd
end
/-- what an operation by values may give -/
def Gives (K : PySem.W.Frag) (B : Bs) (F H : Hp) (K' : Cell → Prop) (Q : VK) : Prop :=
  ∀ v F' H' c fp, Go B F H F' H' → SzH K H' → CR K B.dd F' H' v c fp → fp.Nodup → (∀ a ∈ fp, H a = none ∧ F' a = none) → K' c → Q v H'
/-- a rule by values, told by cells -/
def R2Ok (K : PySem.W.Frag) (B : Bs) (r : R2) (R : Cell → Cell → (Cell → Prop) → Prop) : Prop :=
  ∀ F H x y c1 c2 f1 f2 K' Q, Same F H → DeckOk B H → SzH K H → CR K B.dd F H x c1 f1 → CR K B.dd F H y c2 f2 → R c1 c2 K' → Gives K B F H K' Q → r x y H (fun v H' => SzH K H' → Q v H')
def R1Ok (K : PySem.W.Frag) (B : Bs) (r : V → Hp → VK → Prop) (R : Cell → (Cell → Prop) → Prop) : Prop :=
  ∀ F H x c1 f1 K' Q, Same F H → DeckOk B H → SzH K H → CR K B.dd F H x c1 f1 → R c1 K' → Gives K B F H K' Q → r x H (fun v H' => SzH K H' → Q v H')
@[simp] def x2 (R : Cell → Cell → (Cell → Prop) → Prop) (Ta Tb : XE) : XE := fun γ K => Ta γ fun c1 => Tb γ fun c2 => R c1 c2 K
@[simp] def x1 (R : Cell → (Cell → Prop) → Prop) (Ta : XE) : XE := fun γ K => Ta γ fun c1 => R c1 K
section
variable {X : Cx} {B : Bs} {e a b : Expr} {T Ta Tb : XE} {pos : Pos} {r : R2} {R : Cell → Cell → (Cell → Prop) → Prop}
/-- what is got at (F, H) fits from (F0, H0) on -/
theorem Gives.from {K : PySem.W.Frag} {F H F1 H1 : Hp} {K' : Cell → Prop} {Q : VK} (h : Gives K B F H K' Q) (g : Go B F H F1 H1) : Gives K B F1 H1 K' Q :=
  fun v F' H' c fp g' sz cr nd fr q => h v F' H' c fp (g.trans g') sz cr nd (fun a m => ⟨g.none (fr a m).1, (fr a m).2⟩) q
theorem two {σ : L2.St} {H : Hp} {Q : VK} (ok : R2Ok X.K B r R) (h : liftE X.K B (x2 R Ta Tb) σ H Q) :
    liftR X.K B Ta σ H fun x H1 => liftR X.K B Tb σ H1 fun y H2 => r x y H2 fun v H' => SzH X.K H' → Q v H' := by
  obtain ⟨γ, F, Q', Rl, hT, k⟩ := h
  refine ⟨γ, F, _, Rl, hT, fun x F1 H1 c1 f1 g1 sz1 cr1 fr1 q1 => ⟨γ, F1, _, Rl.step g1, q1, fun y F2 H2 c2 f2 g2 sz2 cr2 fr2 q2 => ?_⟩⟩
  have gk : Gives X.K B F H Q' Q := k
  exact ok F2 H2 x y c1 c2 f1 f2 Q' Q g2.sub g2.dk sz2 (cr1.mono g2.ff fun a m o e => g2.hh a o (fr1 a m) e) cr2 q2 ((gk.from g1).from g2)
theorem de_op {op : Operator} (ho : OpR X (binaryOp op) r) (ok : R2Ok X.K B r R) (ha : DR X B a Ta) (hb : DR X B b Tb) : DE X B (.BinOp a op b pos) (x2 R Ta Tb) :=
  pe_imp (pe_op ho ha hb) fun σ H Q h _ => two ok h
theorem de_cmp {op : CmpOp} (ho : OpR X (compareOp op) r) (hm : behindInMarks op b = false) (ok : R2Ok X.K B r R) (ha : DR X B a Ta) (hb : DR X B b Tb) : DE X B (.Compare a [op] [b] pos) (x2 R Ta Tb) :=
  pe_imp (pe_cmpR ho ha hb hm) fun σ H Q h _ => two ok h
theorem one {r : V → Hp → VK → Prop} {R : Cell → (Cell → Prop) → Prop} {σ : L2.St} {H : Hp} {Q : VK} (ok : R1Ok X.K B r R) (h : liftE X.K B (x1 R Ta) σ H Q) : liftR X.K B Ta σ H fun x H1 => r x H1 fun v H' => SzH X.K H' → Q v H' := by
  obtain ⟨γ, F, Q', Rl, hT, k⟩ := h
  have gk : Gives X.K B F H Q' Q := k
  exact ⟨γ, F, _, Rl, hT, fun x F1 H1 c1 f1 g1 sz1 cr1 fr1 q1 => ok F1 H1 x c1 f1 Q' Q g1.sub g1.dk sz1 cr1 q1 (gk.from g1)⟩
theorem de_un {op : UnaryOp} {r : V → Hp → VK → Prop} {R : Cell → (Cell → Prop) → Prop} (ho : UnR X (unaryOp op) r) (ok : R1Ok X.K B r R) (ha : DR X B a Ta) : DE X B (.UnaryOp op a pos) (x1 R Ta) :=
  pe_imp (pe_un ho ha) fun σ H Q h _ => one ok h
end
section
variable {K : PySem.W.Frag} {B : Bs} {F H : Hp} {K' : Cell → Prop} {Q : VK}
theorem Gives.data (g : Gives K B F H K' Q) (s : Same F H) (d : DeckOk B H) {v : V} {x : D} (h : Dp K F v x) (q : K' (.im x)) : SzH K H → Q v H := fun sz =>
  g v F H (.im x) [] (Go.refl s d) sz (.im h) List.nodup_nil (fun _ m => nomatch m) q
/-- a new tuple of data -/
theorem Gives.tup (g : Gives K B F H K' Q) (s : Same F H) (d : DeckOk B H) {vs : List V} {ds : List D} (h : DpAll K F vs ds) (q : K' (.im (.tuple ds))) {p : Addr} (np : H p = none) : SzH K (upd H p (.tup vs)) → Q (.ref p) (upd H p (.tup vs)) := fun sz => by
  have g1 := Go.newF (o := .tup vs) s d np
  exact g (.ref p) _ _ (.im (.tuple ds)) [] g1 sz (.im (.tup (.inl (.inl upd_same)) (DpAll.mono g1.ff h))) List.nodup_nil (fun _ m => nomatch m) q
/-- a new list of cells -/
theorem Gives.lst (g : Gives K B F H K' Q) (s : Same F H) (d : DeckOk B H) {vs : List V} {cs : List Cell} {fp : List Addr} (h : CRs K B.dd F H vs cs fp) (nd : fp.Nodup) (fr : ∀ a ∈ fp, False) (q : K' (.ow cs)) {p : Addr} (np : H p = none) : SzH K (upd H p (.lst vs)) → Q (.ref p) (upd H p (.lst vs)) := fun sz => by
  have g1 := Go.new (o := .lst vs) s d np
  have e : fp = [] := by
    cases fp with
    | nil => rfl
    | cons a r => exact (fr a List.mem_cons_self).elim
  subst e
  refine g (.ref p) _ _ (.ow cs) [p] g1 sz (.ow upd_same (h.mono g1.ff fun _ m => nomatch m)) (by simp) (fun a m => ?_) q
  have z : a = p := by simpa using m
  subst z
  refine ⟨np, ?_⟩
  cases e : F a with
  | none => rfl
  | some o => rw [s a o e] at np; cases np
theorem Gives.lstD (g : Gives K B F H K' Q) (s : Same F H) (d : DeckOk B H) {vs : List V} {ds : List D} (h : DpAll K F vs ds) (q : K' (.ow (ds.map .im))) {p : Addr} (np : H p = none) : SzH K (upd H p (.lst vs)) → Q (.ref p) (upd H p (.lst vs)) :=
  g.lst s d (CRs.ofDp h) List.nodup_nil (fun _ m => nomatch m) q np
end
theorem CR.int {K : PySem.W.Frag} {da : Option Addr} {F H : Hp} {v : V} {i : Int} {fp : List Addr} (h : CR K da F H v (.im (.int i)) fp) : v = .int i := by cases h with | im h => cases h; rfl
theorem CR.str {K : PySem.W.Frag} {da : Option Addr} {F H : Hp} {v : V} {i : Str} {fp : List Addr} (h : CR K da F H v (.im (.str i)) fp) : v = .str i := by cases h with | im h => cases h; rfl
theorem CR.bl {K : PySem.W.Frag} {da : Option Addr} {F H : Hp} {v : V} {i : Bool} {fp : List Addr} (h : CR K da F H v (.im (.bool i)) fp) : v = .bl i := by cases h with | im h => cases h; rfl
theorem CR.non {K : PySem.W.Frag} {da : Option Addr} {F H : Hp} {v : V} {fp : List Addr} (h : CR K da F H v (.im .none) fp) : v = .non := by cases h with | im h => cases h; rfl
theorem CR.tup {K : PySem.W.Frag} {da : Option Addr} {F H : Hp} {v : V} {ds : List D} {fp : List Addr} (h : CR K da F H v (.im (.tuple ds)) fp) : ∃ a vs, v = .ref a ∧ SqT K F a vs ∧ DpAll K F vs ds := by cases h with | im h => cases h with | tup h1 h2 => exact ⟨_, _, rfl, h1, h2⟩
/-- a list of data, frozen or owned -/
def lstD : Cell → Option (List D)
  | .im (.list ds) => some ds
  | .ow cs => toDs cs
  | _ => none
@[simp] theorem lstD_ow (ds : List D) : lstD (.ow (ds.map .im)) = some ds := by simp [lstD, toDs_im]
@[simp] theorem lstD_nil : lstD (.ow []) = some [] := by simp [lstD, toDs]
@[simp] theorem lstD_im (ds : List D) : lstD (.im (.list ds)) = some ds := rfl
theorem CR.toH {K : PySem.W.Frag} {da : Option Addr} {F H : Hp} {v : V} {c : Cell} {fp : List Addr} {d : D} (s : Same F H) (h : CR K da F H v c fp) (e : toD c = some d) : Dp K H v d := Dp.mono (addF_sub s) (h.dp s e)
theorem CR.lst {K : PySem.W.Frag} {da : Option Addr} {F H : Hp} {v : V} {c : Cell} {ds : List D} {fp : List Addr} (s : Same F H) (h : CR K da F H v c fp) (e : lstD c = some ds) : ∃ a vs, v = .ref a ∧ SqL K H a vs ∧ DpAll K H vs ds := by
  cases c with
  | im d =>
    cases d with
    | list es =>
      simp at e; subst e
      cases h with
      | im h => cases h with | lst h1 h2 => exact ⟨_, _, rfl, s.seq h1, DpAll.mono s h2⟩
    | _ => cases e
  | ow cs =>
    have e' : toDs cs = some ds := e
    have := h.toH s (show toD (.ow cs) = some (.list ds) by simp [toD, e'])
    cases this with | lst h1 h2 => exact ⟨_, _, rfl, h1, h2⟩
  | _ => cases e
/-- .. whose items are frozen -/
def imsOf : List Cell → Option (List D)
  | [] => some []
  | .im d :: cs => (imsOf cs).map (d :: ·)
  | _ :: _ => none
@[simp] theorem imsOf_map (ds : List D) : imsOf (ds.map .im) = some ds := by
  induction ds with
  | nil => rfl
  | cons d ds ih => simp [imsOf, ih]
theorem imsOf_eq : ∀ {cs : List Cell} {ds : List D}, imsOf cs = some ds → cs = ds.map .im
  | [], ds, h => by simp [imsOf] at h; subst h; rfl
  | .im d :: cs, ds, h => by
    simp only [imsOf, Option.map_eq_some_iff] at h
    obtain ⟨es, h1, h2⟩ := h
    subst h2
    rw [imsOf_eq h1]; rfl
  | .un :: _, _, h => by cases h
  | .ow _ :: _, _, h => by cases h
  | .dk _ _ :: _, _, h => by cases h
  | .dt _ _ :: _, _, h => by cases h
  | .fk _ _ :: _, _, h => by cases h
  | .ft _ _ :: _, _, h => by cases h
  | .deck :: _, _, h => by cases h
  | .fn _ _ :: _, _, h => by cases h
def lstF : Cell → Option (List D)
  | .im (.list ds) => some ds
  | .ow cs => imsOf cs
  | _ => none
@[simp] theorem lstF_ow (ds : List D) : lstF (.ow (ds.map .im)) = some ds := by simp [lstF]
@[simp] theorem lstF_nil : lstF (.ow []) = some [] := by simp [lstF, imsOf]
@[simp] theorem lstF_im (ds : List D) : lstF (.im (.list ds)) = some ds := rfl
theorem CR.frl {K : PySem.W.Frag} {da : Option Addr} {F H : Hp} {v : V} {c : Cell} {ds : List D} {fp : List Addr} (s : Same F H) (h : CR K da F H v c fp) (e : lstF c = some ds) : ∃ a vs, v = .ref a ∧ (SqL K F a vs ∨ (H a = some (.lst vs) ∧ fp = [a])) ∧ DpAll K F vs ds := by
  cases c with
  | im d =>
    cases d with
    | list es =>
      simp at e; subst e
      cases h with
      | im h => cases h with | lst h1 h2 => exact ⟨_, _, rfl, .inl h1, h2⟩
    | _ => cases e
  | ow cs =>
    have e' : imsOf cs = some ds := e
    have e2 := imsOf_eq e'
    subst e2
    cases h with
    | ow h hs =>
      obtain ⟨h1, h2⟩ := CRs.toDp hs
      subst h2
      exact ⟨_, _, rfl, .inr ⟨h, rfl⟩, h1⟩
  | _ => cases e
theorem sq_of {K : PySem.W.Frag} {F H : Hp} {a : Addr} {vs : List V} {fp : List Addr} (s : Same F H) (h : SqL K F a vs ∨ (H a = some (.lst vs) ∧ fp = [a])) : SqL K H a vs := by
  rcases h with h | h
  · exact s.seq h
  · exact .inl (.inl h.1)
/-- two ints -/
@[simp] def cI (C : Int → Int → Prop) (g : Int → Int → Int) : Cell → Cell → (Cell → Prop) → Prop := fun a b K => ∃ i j, a = .im (.int i) ∧ b = .im (.int j) ∧ C i j ∧ K (.im (.int (g i j)))
theorem ok_I {K : PySem.W.Frag} {B : Bs} {C : Int → Int → Prop} {g : Int → Int → Int} : R2Ok K B (rI C fun i j => .int (g i j)) (cI C g) := fun F H x y c1 c2 f1 f2 K' Q s d sz h1 h2 ⟨i, j, e1, e2, hc, q⟩ gv => by
  subst e1 e2
  rw [h1.int, h2.int]
  exact ⟨i, j, rfl, rfl, hc, gv.data s d (.int _) q⟩
@[simp] def cI0 (g : Int → Int → Int) : Cell → Cell → (Cell → Prop) → Prop := fun a b K => ∃ i j, a = .im (.int i) ∧ b = .im (.int j) ∧ K (.im (.int (g i j)))
theorem ok_I0 {K : PySem.W.Frag} {B : Bs} {g : Int → Int → Int} : R2Ok K B (rI0 fun i j => .int (g i j)) (cI0 g) := fun F H x y c1 c2 f1 f2 K' Q s d sz h1 h2 ⟨i, j, e1, e2, q⟩ gv => by
  subst e1 e2
  rw [h1.int, h2.int]
  exact ⟨i, j, rfl, rfl, gv.data s d (.int _) q⟩
@[simp] def cB0 (g : Int → Int → Bool) : Cell → Cell → (Cell → Prop) → Prop := fun a b K => ∃ i j, a = .im (.int i) ∧ b = .im (.int j) ∧ K (.im (.bool (g i j)))
theorem ok_B0 {K : PySem.W.Frag} {B : Bs} {g : Int → Int → Bool} : R2Ok K B (rI0 fun i j => .bl (g i j)) (cB0 g) := fun F H x y c1 c2 f1 f2 K' Q s d sz h1 h2 ⟨i, j, e1, e2, q⟩ gv => by
  subst e1 e2
  rw [h1.int, h2.int]
  exact ⟨i, j, rfl, rfl, gv.data s d (.bl _) q⟩
/-- + : ints, texts, tuples, lists -/
@[simp] def cAdd : Cell → Cell → (Cell → Prop) → Prop := fun a b K =>
  (∃ i j, a = .im (.int i) ∧ b = .im (.int j) ∧ K (.im (.int (i + j)))) ∨
  (∃ xs ys, a = .im (.tuple xs) ∧ b = .im (.tuple ys) ∧ xs.length + ys.length ≤ sizeLine ∧ K (.im (.tuple (xs ++ ys)))) ∨
  (∃ (xs ys : List D), a = .ow (xs.map .im) ∧ b = .ow (ys.map .im) ∧ xs.length + ys.length ≤ sizeLine ∧ K (.ow ((xs ++ ys).map .im))) ∨
  (∃ i j, a = .im (.str i) ∧ b = .im (.str j) ∧ i.length + j.length ≤ sizeLine ∧ K (.im (.str (i ++ j))))
def rAddAll (K : PySem.W.Frag) : R2 := fun x y H Q => rI0 (fun i j => .int (i + j)) x y H Q ∨ (rCatA K x y H Q ∨ (rCat x y H Q ∨ ∃ i j, x = .str i ∧ y = .str j ∧ i.length + j.length ≤ sizeLine ∧ Q (.str (i ++ j)) H))
theorem op_addAll {X : Cx} : OpR X (binaryOp .Add) (rAddAll X.K) := op_add.or (op_catA.or (op_cat.or op_add_str))
theorem ok_Add {K : PySem.W.Frag} {B : Bs} : R2Ok K B (rAddAll K) cAdd := fun F H x y c1 c2 f1 f2 K' Q s d sz h1 h2 h gv => by
  rcases h with ⟨i, j, e1, e2, q⟩ | ⟨xs, ys, e1, e2, hl, q⟩ | ⟨xs, ys, e1, e2, hl, q⟩ | ⟨i, j, e1, e2, hl, q⟩
  · subst e1 e2
    rw [h1.int, h2.int]
    exact .inl ⟨i, j, rfl, rfl, gv.data s d (.int _) q⟩
  · subst e1 e2
    obtain ⟨p1, vs1, rfl, t1, a1⟩ := h1.tup
    obtain ⟨p2, vs2, rfl, t2, a2⟩ := h2.tup
    have l1 := DpAll.length a1
    have l2 := DpAll.length a2
    refine .inr (.inl ⟨p1, p2, vs1, vs2, rfl, rfl, SqT.mono s t1, SqT.mono s t2, by rw [l1, l2]; exact hl, fun e => ?_, fun _ e => ?_, fun _ _ p np => ?_⟩)
    · subst e
      cases a1
      exact gv.data s d (.tup t2 a2) q
    · subst e
      cases a2
      rw [List.append_nil] at q
      exact gv.data s d (.tup t1 a1) q
    · exact gv.tup s d (DpAll.app a1 a2) q np
  · subst e1 e2
    cases h1 with
    | ow t1 s1 =>
      cases h2 with
      | ow t2 s2 =>
        obtain ⟨a1, _⟩ := CRs.toDp s1
        obtain ⟨a2, _⟩ := CRs.toDp s2
        refine .inr (.inr (.inl ⟨_, _, _, _, rfl, rfl, t1, t2, by rw [DpAll.length a1, DpAll.length a2]; exact hl, fun p np => gv.lstD s d (DpAll.app a1 a2) q np⟩))
  · subst e1 e2
    rw [h1.str, h2.str]
    exact .inr (.inr (.inr ⟨i, j, rfl, rfl, hl, gv.data s d (.str _) q⟩))
/-- xs * k : lists -/
def cMul : Cell → Cell → (Cell → Prop) → Prop := fun a b K =>
  (∃ i j, a = .im (.int i) ∧ b = .im (.int j) ∧ CMul i j ∧ K (.im (.int (i * j)))) ∨
  (∃ (xs : List D) (k : Int), a = .ow (xs.map .im) ∧ b = .im (.int k) ∧ -(2 ^ 63) ≤ k ∧ k < 2 ^ 63 ∧ xs.length * k.toNat ≤ sizeLine ∧ K (.ow ((List.flatten (List.replicate k.toNat xs)).map .im)))
/-- == and != of data -/
@[simp] def cEq : Cell → Cell → (Cell → Prop) → Prop := fun a b K => ∃ d e, toD a = some d ∧ toD b = some e ∧ SeqAt.shaped d = true ∧ SeqAt.shaped e = true ∧ K (.im (.bool (PyData.eqv d e)))
@[simp] def cNe : Cell → Cell → (Cell → Prop) → Prop := fun a b K => ∃ d e, toD a = some d ∧ toD b = some e ∧ SeqAt.shaped d = true ∧ SeqAt.shaped e = true ∧ K (.im (.bool (!PyData.eqv d e)))
theorem ok_Eq {K : PySem.W.Frag} {B : Bs} : R2Ok K B (rEqD K) cEq := fun F H x y c1 c2 f1 f2 K' Q s d sz h1 h2 ⟨d1, d2, e1, e2, s1, s2, q⟩ gv =>
  ⟨d1, d2, h1.toH s e1, h2.toH s e2, s1, s2, gv.data s d (.bl _) q⟩
theorem ok_Ne {K : PySem.W.Frag} {B : Bs} : R2Ok K B (rNeD K) cNe := fun F H x y c1 c2 f1 f2 K' Q s d sz h1 h2 ⟨d1, d2, e1, e2, s1, s2, q⟩ gv =>
  ⟨d1, d2, h1.toH s e1, h2.toH s e2, s1, s2, gv.data s d (.bl _) q⟩
/-- x in a list or tuple of data -/
def seqD : Cell → Option (List D)
  | .im (.tuple ds) => some ds
  | c => lstD c
def rInT (K : PySem.W.Frag) : R2 := fun x y H Q => ∃ d ds, Dp K H x d ∧ Dp K H y (.tuple ds) ∧ SeqAt.shaped d = true ∧ SeqAt.shaped (.list ds) = true ∧ Q (.bl (ds.any fun z => PyData.eqv z d)) H
def rNotInT (K : PySem.W.Frag) : R2 := fun x y H Q => ∃ d ds, Dp K H x d ∧ Dp K H y (.tuple ds) ∧ SeqAt.shaped d = true ∧ SeqAt.shaped (.list ds) = true ∧ Q (.bl (!ds.any fun z => PyData.eqv z d)) H
theorem op_inT {X : Cx} (hu : X.A.units + 65 < cLine) : OpR X (compareOp .In) (rInT X.K) := by
  intro pins s σ H x y v u Q I rx ry h
  obtain ⟨d, ds, hd, he, sd, se, q⟩ := h
  obtain ⟨as, r1⟩ := Dp.reads I d x v hd rx
  obtain ⟨bs, r2⟩ := Dp.reads I (.tuple ds) y u he ry
  exact SeqAt.in_tuple_reads r2 r1 (SeqAt.canLay_of_shaped se) (SeqAt.canLay_of_shaped sd) (room_in_shaped sd hu) ⟨.bl _, H, I, rfl, q⟩
theorem op_notInT {X : Cx} (hu : X.A.units + 65 < cLine) : OpR X (compareOp .NotIn) (rNotInT X.K) := by
  intro pins s σ H x y v u Q I rx ry h
  obtain ⟨d, ds, hd, he, sd, se, q⟩ := h
  obtain ⟨as, r1⟩ := Dp.reads I d x v hd rx
  obtain ⟨bs, r2⟩ := Dp.reads I (.tuple ds) y u he ry
  exact SeqAt.notIn_tuple_reads r2 r1 (SeqAt.canLay_of_shaped se) (SeqAt.canLay_of_shaped sd) (room_in_shaped sd hu) ⟨.bl _, H, I, rfl, q⟩
@[simp] def cIn (neg : Bool) : Cell → Cell → (Cell → Prop) → Prop := fun a b K => ∃ d ds, toD a = some d ∧ seqD b = some ds ∧ SeqAt.shaped d = true ∧ SeqAt.shaped (.list ds) = true ∧ K (.im (.bool (neg ^^ ds.any fun z => PyData.eqv z d)))
theorem op_inAll {X : Cx} (hu : X.A.units + 65 < cLine) : OpR X (compareOp .In) (fun x y H Q => rInD X.K x y H Q ∨ rInT X.K x y H Q) := (op_inD hu).or (op_inT hu)
theorem op_notInAll {X : Cx} (hu : X.A.units + 65 < cLine) : OpR X (compareOp .NotIn) (fun x y H Q => rNotInD X.K x y H Q ∨ rNotInT X.K x y H Q) := (op_notInD hu).or (op_notInT hu)
theorem seqD_cases {c : Cell} {ds : List D} (h : seqD c = some ds) : c = .im (.tuple ds) ∨ (lstD c = some ds) := by
  unfold seqD at h
  split at h
  · injection h with h; subst h; exact .inl rfl
  · exact .inr h
theorem lstD_toD {c : Cell} {ds : List D} (h : lstD c = some ds) : toD c = some (.list ds) := by
  unfold lstD at h
  split at h
  · injection h with h; subst h; simp [toD]
  · simp [toD, h]
  · cases h
theorem ok_In {K : PySem.W.Frag} {B : Bs} : R2Ok K B (fun x y H Q => rInD K x y H Q ∨ rInT K x y H Q) (cIn false) := fun F H x y c1 c2 f1 f2 K' Q s d sz h1 h2 ⟨d1, ds, e1, e2, s1, s2, q⟩ gv => by
  rcases seqD_cases e2 with e | e
  · subst e
    exact .inr ⟨d1, ds, h1.toH s e1, h2.toH s (by simp [toD]), s1, s2, gv.data s d (.bl _) (by simpa using q)⟩
  · exact .inl ⟨d1, ds, h1.toH s e1, h2.toH s (lstD_toD e), s1, s2, gv.data s d (.bl _) (by simpa using q)⟩
theorem ok_NotIn {K : PySem.W.Frag} {B : Bs} : R2Ok K B (fun x y H Q => rNotInD K x y H Q ∨ rNotInT K x y H Q) (cIn true) := fun F H x y c1 c2 f1 f2 K' Q s d sz h1 h2 ⟨d1, ds, e1, e2, s1, s2, q⟩ gv => by
  rcases seqD_cases e2 with e | e
  · subst e
    exact .inr ⟨d1, ds, h1.toH s e1, h2.toH s (by simp [toD]), s1, s2, gv.data s d (.bl _) (by simpa using q)⟩
  · exact .inl ⟨d1, ds, h1.toH s e1, h2.toH s (lstD_toD e), s1, s2, gv.data s d (.bl _) (by simpa using q)⟩
end DL
set_option maxHeartbeats 1000000
namespace DL
open PySem PySem.Spec PyProof.Rows L2
section
variable {X : Cx} {B : Bs} {e a b c : Expr} {es rest : List Expr} {T Ta Tb Tc : XE} {U U1 U2 : XT} {pos : Pos}
@[simp] def tBl (T : XE) : XT := fun γ K => T γ fun c => ∃ b, c = .im (.bool b) ∧ K b
theorem dt_val (h : DE X B e T) (he : ∀ whole, isTrue e X.env whole = (do let v ← whole; standAt e.pos; holding [v] (truthy v)) := by intro _; rfl) : DT X B e (tBl T) :=
  pt_imp (pt_val h he) fun σ H Q ⟨γ, F, Q', R, hT, k⟩ => ⟨γ, F, _, R, hT, fun v F' H' c fp g sz cr nd fr ⟨b, e, q⟩ => by
    subst e
    rw [cr.bl]
    exact ⟨b, rfl, k b F' H' g q⟩⟩
theorem dt_cmp {op : CmpOp} {r : R2} {R : Cell → Cell → (Cell → Prop) → Prop} (ho : OpR X (compareOp op) r) (hm : behindInMarks op b = false) (ok : R2Ok X.K B r R) (ha : DR X B a Ta) (hb : DR X B b Tb) : DT X B (.Compare a [op] [b] pos) (tBl (x2 R Ta Tb)) := by
  have hsz : OpR X (compareOp op) (fun x y H Q => r x y H fun v H' => SzH X.K H' → Q v H') := fun pins s σ H x y v u Q I rx ry h =>
    thn (ho pins s σ H x y v u _ I rx ry h) fun w s1 ⟨z, H1, I1, r1, q1⟩ => ⟨z, H1, I1, r1, q1 (inv_sz I1)⟩
  have hra : PE X a (fun σ H Q => liftR X.K B Ta σ H Q) := ha
  refine pt_imp (pt_cmpR hsz ha hb hm) fun σ H Q ⟨γ, F, Q', Rl, hT, k⟩ => ?_
  refine two (Q := fun x H' => ∃ k, x = V.bl k ∧ Q k H') ok ⟨γ, F, _, Rl, hT, fun v F' H' c fp g sz cr nd fr ⟨b, e, q⟩ => ?_⟩
  subst e
  rw [cr.bl]
  exact ⟨b, rfl, k b F' H' g q⟩
/-- the truth of a value -/
def truC : Cell → Option Bool
  | .im .none => some false
  | .im (.bool b) => some b
  | .im (.int i) => some (i != 0)
  | .im (.tuple ds) => some (!ds.isEmpty)
  | .im (.list ds) => some (!ds.isEmpty)
  | .ow cs => some (!cs.isEmpty)
  | _ => none
@[simp] def tTru (T : XE) : XT := fun γ K => T γ fun c => ∃ b, truC c = some b ∧ K b
theorem empty_eq {K : PySem.W.Frag} {H : Hp} : ∀ {vs : List V} {ds : List D}, DpAll K H vs ds → vs.isEmpty = ds.isEmpty
  | _, _, .nil => rfl
  | _, _, .cons _ _ => rfl
theorem empty_eqC {K : PySem.W.Frag} {da : Option Addr} {F H : Hp} : ∀ {vs : List V} {ds : List Cell} {fp : List Addr}, CRs K da F H vs ds fp → vs.isEmpty = ds.isEmpty
  | _, _, _, .nil => rfl
  | _, _, _, .cons _ _ => rfl
theorem truC_ok {K : PySem.W.Frag} {da : Option Addr} {F H : Hp} {v : V} {c : Cell} {fp : List Addr} {b : Bool} (s : Same F H) (h : CR K da F H v c fp) (e : truC c = some b) : TruV K v H b := by
  cases h with
  | im h =>
    cases h with
    | non => simp [truC] at e; subst e; rfl
    | bl b => simp [truC] at e; subst e; rfl
    | int i => simp [truC] at e; subst e; rfl
    | str x => simp [truC] at e
    | lst h1 h2 =>
      simp only [truC, Option.some.injEq] at e
      exact .inl ⟨_, s.seq h1, by rw [empty_eq h2]; exact e.symm⟩
    | tup h1 h2 =>
      simp only [truC, Option.some.injEq] at e
      exact .inr (.inl ⟨_, SqT.mono s h1, by rw [empty_eq h2]; exact e.symm⟩)
  | ow h hs =>
    simp only [truC, Option.some.injEq] at e
    exact .inl ⟨_, .inl (.inl h), by rw [empty_eqC hs]; exact e.symm⟩
  | _ => simp [truC] at e
theorem dt_truth (h : DR X B e T) (he : ∀ whole, isTrue e X.env whole = (do let v ← whole; standAt e.pos; holding [v] (truthy v)) := by intro _; rfl) : DT X B e (tTru T) :=
  pt_imp (pt_truth h he) fun σ H Q ⟨γ, F, Q', R, hT, k⟩ => ⟨γ, F, _, R, hT, fun v F' H' c fp g sz cr fr ⟨b, e, q⟩ => ⟨b, truC_ok g.sub cr e, k b F' H' g q⟩⟩
@[simp] def tAndX (T U : XT) : XT := fun γ K => T γ fun b => if b = true then U γ K else K false
@[simp] def tOrX (T U : XT) : XT := fun γ K => T γ fun b => if b = true then K true else U γ K
@[simp] def tNotX (T : XT) : XT := fun γ K => T γ fun b => K (!b)
theorem dt_not (h : DT X B e U) : DT X B (.UnaryOp .Not e pos) (tNotX U) :=
  pt_imp (pt_not h) fun σ H Q ⟨γ, F, Q', R, hT, k⟩ => ⟨γ, F, _, R, hT, fun b F' H' g q => k (!b) F' H' g q⟩
theorem dw_and1 (h : DT X B a U) : DW X B (.BoolOp .And [a] pos) U := pw_and1 h
theorem dw_or1 (h : DT X B a U) : DW X B (.BoolOp .Or [a] pos) U := pw_or1 h
theorem dw_and (ha : DT X B a U1) (hb : DW X B (.BoolOp .And (b :: rest) pos) U2) : DW X B (.BoolOp .And (a :: b :: rest) pos) (tAndX U1 U2) :=
  pw_imp (pw_and ha hb) fun σ H Q ⟨γ, F, Q', R, hT, k⟩ => ⟨γ, F, _, R, hT, fun b F' H' g q => by
    cases b with
    | true => exact iteT ⟨γ, F', Q', R.step g, by simpa using q, fun b2 F2 H2 g2 q2 => k b2 F2 H2 (g.trans g2) q2⟩
    | false => exact iteF (k false F' H' g (by simpa using q))⟩
theorem dw_or (ha : DT X B a U1) (hb : DW X B (.BoolOp .Or (b :: rest) pos) U2) : DW X B (.BoolOp .Or (a :: b :: rest) pos) (tOrX U1 U2) :=
  pw_imp (pw_or ha hb) fun σ H Q ⟨γ, F, Q', R, hT, k⟩ => ⟨γ, F, _, R, hT, fun b F' H' g q => by
    cases b with
    | false => exact iteF ⟨γ, F', Q', R.step g, by simpa using q, fun b2 F2 H2 g2 q2 => k b2 F2 H2 (g.trans g2) q2⟩
    | true => exact iteT (k true F' H' g (by simpa using q))⟩
theorem dt_w (h : DW X B e U) : DT X B e U := PW.pt h
/-- .. as values -/
@[simp] def xAnd (Ta Tb : XE) : XE := fun γ K => Ta γ fun c => ∃ b, c = .im (.bool b) ∧ if b = true then Tb γ K else K (.im (.bool false))
@[simp] def xOr (Ta Tb : XE) : XE := fun γ K => Ta γ fun c => ∃ b, c = .im (.bool b) ∧ if b = true then K (.im (.bool true)) else Tb γ K
@[simp] def xNot (Ta : XE) : XE := fun γ K => Ta γ fun c => ∃ b, c = .im (.bool b) ∧ K (.im (.bool (!b)))
/-- behind a first part -/
theorem then_E {γ : List Cell} {F H F1 H1 : Hp} {σ : L2.St} {Q' : Cell → Prop} {Q : VK} {T : XE} (R : Rel X.K B γ F H σ) (g : Go B F H F1 H1) (h : T γ Q') (k : Gives X.K B F H Q' Q) : liftE X.K B T σ H1 Q :=
  ⟨γ, F1, Q', R.step g, h, k.from g⟩
theorem de_one {op} (h : DE X B a T) : DE X B (.BoolOp op [a] pos) T := pe_one h
theorem de_and (ha : DE X B a Ta) (hb : DE X B (.BoolOp .And (b :: rest) pos) Tb) : DE X B (.BoolOp .And (a :: b :: rest) pos) (xAnd Ta Tb) :=
  pe_imp (pe_and ha hb) fun σ H Q ⟨γ, F, Q', R, hT, k⟩ _ => ⟨γ, F, _, R, hT, fun v F' H' c fp g sz cr nd fr ⟨b, e, q⟩ => by
    subst e
    rw [cr.bl]
    have gk : Gives X.K B F H Q' Q := k
    refine ⟨b, rfl, ?_⟩
    cases b with
    | true => exact iteT (then_E (Q := fun v H' => SzH X.K H' → Q v H') R g (by simpa using q) fun v F2 H2 c fp g2 sz cr nd fr q _ => gk v F2 H2 c fp g2 sz cr nd fr q)
    | false => exact iteF fun sz' => (gk.from g).data g.sub g.dk (.bl false) (by simpa using q) sz'⟩
theorem de_or (ha : DE X B a Ta) (hb : DE X B (.BoolOp .Or (b :: rest) pos) Tb) : DE X B (.BoolOp .Or (a :: b :: rest) pos) (xOr Ta Tb) :=
  pe_imp (pe_or ha hb) fun σ H Q ⟨γ, F, Q', R, hT, k⟩ _ => ⟨γ, F, _, R, hT, fun v F' H' c fp g sz cr nd fr ⟨b, e, q⟩ => by
    subst e
    rw [cr.bl]
    have gk : Gives X.K B F H Q' Q := k
    refine ⟨b, rfl, ?_⟩
    cases b with
    | false => exact iteF (then_E (Q := fun v H' => SzH X.K H' → Q v H') R g (by simpa using q) fun v F2 H2 c fp g2 sz cr nd fr q _ => gk v F2 H2 c fp g2 sz cr nd fr q)
    | true => exact iteT fun sz' => (gk.from g).data g.sub g.dk (.bl true) (by simpa using q) sz'⟩
theorem de_not (ha : DE X B a Ta) : DE X B (.UnaryOp .Not a pos) (xNot Ta) :=
  pe_imp (pe_not ha) fun σ H Q ⟨γ, F, Q', R, hT, k⟩ _ => ⟨γ, F, _, R, hT, fun v F' H' c fp g sz cr nd fr ⟨b, e, q⟩ => by
    subst e
    rw [cr.bl]
    have gk : Gives X.K B F H Q' Q := k
    exact ⟨b, rfl, (gk.from g).data g.sub g.dk (.bl _) q⟩⟩
@[simp] def xIf (U : XT) (Ta Tb : XE) : XE := fun γ K => U γ fun b => if b = true then Ta γ K else Tb γ K
theorem de_if (hc : DT X B c U) (ha : DE X B a Ta) (hb : DE X B b Tb) : DE X B (.IfExp c a b pos) (xIf U Ta Tb) :=
  pe_imp (pe_ifExp hc ha hb) fun σ H Q ⟨γ, F, Q', R, hT, k⟩ _ => ⟨γ, F, _, R, hT, fun d F' H' g q => by
    have gk : Gives X.K B F H Q' Q := k
    cases d with
    | true => exact iteT (then_E (Q := fun v H' => SzH X.K H' → Q v H') R g (by simpa using q) fun v F2 H2 c fp g2 sz cr nd fr q _ => gk v F2 H2 c fp g2 sz cr nd fr q)
    | false => exact iteF (then_E (Q := fun v H' => SzH X.K H' → Q v H') R g (by simpa using q) fun v F2 H2 c fp g2 sz cr nd fr q _ => gk v F2 H2 c fp g2 sz cr nd fr q)⟩
/-- a <= b <= c of ints -/
@[simp] def xChain (g1 g2 : Int → Int → Bool) (Ta Tb Tc : XE) : XE := fun γ K => Ta γ fun c1 => Tb γ fun c2 => ∃ i j, c1 = .im (.int i) ∧ c2 = .im (.int j) ∧ if g1 i j = true then Tc γ fun c3 => ∃ k, c3 = .im (.int k) ∧ K (.im (.bool (g2 j k))) else K (.im (.bool false))
theorem de_chain {op op' : CmpOp} {g1 g2 : Int → Int → Bool} (ho : OpR X (compareOp op) (rI0 fun i j => .bl (g1 i j))) (ho' : OpR X (compareOp op') (rI0 fun i j => .bl (g2 i j)))
    (ha : DR X B a Ta) (hb : DR X B b Tb) (hc : DR X B c Tc) (hm : lastMarks [op, op'] [b, c] = false := by with_unfolding_all rfl) : DE X B (.Compare a [op, op'] [b, c] pos) (xChain g1 g2 Ta Tb Tc) :=
  pe_imp (pe_chain ho ho' ha hb hc hm) fun σ H Q ⟨γ, F, Q', R, hT, k⟩ _ => ⟨γ, F, _, R, hT, fun x F1 H1 c1 f1 g1' sz1 cr1 fr1 q1 => ⟨γ, F1, _, R.step g1', q1, fun y F2 H2 c2 f2 g2' sz2 cr2 fr2 ⟨i, j, e1, e2, q2⟩ => by
    subst e1 e2
    have gk : Gives X.K B F H Q' Q := k
    rw [cr1.int, cr2.int]
    refine ⟨i, j, rfl, rfl, _, rfl, ?_⟩
    cases e : g1 i j with
    | false =>
      rw [e] at q2
      exact iteF fun sz' => (gk.from (g1'.trans g2')).data g2'.sub g2'.dk (.bl false) (by simpa using q2) sz'
    | true =>
      rw [e] at q2
      have q2' : Tc γ fun c3 => ∃ k, c3 = .im (.int k) ∧ Q' (.im (.bool (g2 j k))) := by simpa using q2
      refine iteT ?_
      exact ⟨γ, F2, _, (R.step g1').step g2', q2', fun z F3 H3 c3 f3 g3' sz3 cr3 fr3 ⟨m, e3, q3⟩ => by
        subst e3
        rw [cr3.int]
        exact ⟨j, m, rfl, rfl, fun sz' => (gk.from ((g1'.trans g2').trans g3')).data g3'.sub g3'.dk (.bl _) q3 sz'⟩⟩⟩⟩
end
@[simp] def xNil : XA := fun _ K => K []
@[simp] def xCons (T : XE) (U : XA) : XA := fun γ K => T γ fun c => U γ fun cs => K (c :: cs)
/-- read at once -/
def liftB (K : PySem.W.Frag) (B : Bs) (T : XA) : TA := fun σ H Q => ∃ γ F Q', Rel K B γ F H σ ∧ T γ Q' ∧
  ∀ vs F' H' cs fp, Go B F H F' H' → CRs K B.dd F' H' vs cs fp → (∀ a ∈ fp, a ∉ B.ms) → Q' cs → Q vs H'
def DB (X : Cx) (B : Bs) (es : List Expr) (T : XA) : Prop := PA X es (liftB X.K B T)
section
variable {X : Cx} {B : Bs} {e a b c : Expr} {es : List Expr} {T Ta Tb : XE} {U : XA} {pos : Pos}
theorem da_nil : DA X B [] xNil := pa_imp pa_nil fun σ H Q ⟨γ, F, Q', R, hT, k⟩ => k [] F H [] [] R.refl .nil List.nodup_nil (fun _ m => nomatch m) hT
theorem da_cons (h : DE X B e T) (hr : DA X B es U) (hs : starEach (e :: es) X.env = (false, eval e X.env) :: starEach es X.env := by rfl) : DA X B (e :: es) (xCons T U) :=
  pa_imp (pa_cons h hr hs) fun σ H Q ⟨γ, F, Q', R, hT, k⟩ => ⟨γ, F, _, R, hT, fun v F1 H1 c f g1 sz cr nd fr q => ⟨γ, F1, _, R.step g1, q, fun vs F2 H2 cs fp g2 crs nds frs q2 => by
    have d1 := R.dk
    refine k (v :: vs) F2 H2 (c :: cs) (f ++ fp) (g1.trans g2) (.cons (cr.mono g2.ff fun a m o e => g2.hh a o (not_ms d1 (fr a m).1) e) crs) ?_ (fun a m => ?_) q2
    · refine List.nodup_append.mpr ⟨nd, nds, fun a ha b hb e => ?_⟩
      subst e
      obtain ⟨o, z⟩ := cr.there a ha
      rw [(frs a hb).1] at z; cases z
    · rcases List.mem_append.mp m with m | m
      · refine ⟨(fr a m).1, g2.nw a (fr a m).2 ?_⟩
        obtain ⟨o, z⟩ := cr.there a m
        rw [z]; exact fun z => by cases z
      · exact ⟨g1.none (frs a m).1, (frs a m).2⟩⟩⟩
theorem db_nil : DB X B [] xNil := pa_imp pa_nil fun σ H Q ⟨γ, F, Q', R, hT, k⟩ => k [] F H [] [] R.refl .nil (fun _ m => nomatch m) hT
theorem db_cons (h : DR X B e T) (hr : DB X B es U) (hs : starEach (e :: es) X.env = (false, eval e X.env) :: starEach es X.env := by rfl) : DB X B (e :: es) (xCons T U) :=
  pa_imp (pa_cons h hr hs) fun σ H Q ⟨γ, F, Q', R, hT, k⟩ => ⟨γ, F, _, R, hT, fun v F1 H1 c f g1 sz cr fr q => ⟨γ, F1, _, R.step g1, q, fun vs F2 H2 cs fp g2 crs frs q2 => by
    refine k (v :: vs) F2 H2 (c :: cs) (f ++ fp) (g1.trans g2) (.cons (cr.mono g2.ff fun a m o e => g2.hh a o (fr a m) e) crs) (fun a m => ?_) q2
    rcases List.mem_append.mp m with m | m
    · exact fr a m
    · exact frs a m⟩⟩
@[simp] def xTup (U : XA) : XE := fun γ K => U γ fun cs => ∃ ds, toDs cs = some ds ∧ ds.length ≤ sizeLine ∧ K (.im (.tuple ds))
@[simp] def xLst (U : XA) : XE := fun γ K => U γ fun cs => cs.length ≤ sizeLine ∧ K (.ow cs)
theorem toDs_length : ∀ {cs : List Cell} {ds : List D}, toDs cs = some ds → cs.length = ds.length
  | [], ds, h => by simp [toDs] at h; subst h; rfl
  | c :: cs, ds, h => by
    unfold toDs at h
    split at h
    · rename_i d es e1 e2
      injection h with h; subst h
      rw [List.length_cons, List.length_cons, toDs_length e2]
    · cases h
theorem de_tup {k} (h : DA X B es U) : DE X B (.Tuple es k pos) (xTup U) := pe_imp (pe_tup h) fun σ H Q ⟨γ, F, Q', R, hT, kk⟩ _ => ⟨γ, F, _, R, hT, fun vs F1 H1 cs fp g1 crs nd fr ⟨ds, e, hl, q⟩ => by
  have gk : Gives X.K B F H Q' Q := kk
  have g2 := g1.addF fr
  have hd : DpAll X.K (addF F1 H1 fp) vs ds := crs.dps g1.sub e
  exact ⟨by rw [crs.length, toDs_length e]; exact hl, fun p np => (gk.from g2).tup g2.sub g2.dk hd q np⟩⟩
theorem de_lst (h : DA X B es U) : DE X B (.List es pos) (xLst U) := pe_imp (pe_lst h) fun σ H Q ⟨γ, F, Q', R, hT, kk⟩ _ => ⟨γ, F, _, R, hT, fun vs F1 H1 cs fp g1 crs nd fr ⟨hl, q⟩ => ⟨by rw [crs.length]; exact hl, fun p np sz => by
  have g2 := Go.new (o := .lst vs) g1.sub g1.dk np
  have d1 := R.dk
  refine kk (.ref p) F1 _ (.ow cs) (p :: fp) (g1.trans g2) sz (.ow upd_same (crs.mono (Same.refl F1) fun a m o e => g2.hh a o (not_ms d1 (fr a m).1) e)) ?_ (fun a m => ?_) q
  · refine List.nodup_cons.mpr ⟨fun m => ?_, nd⟩
    obtain ⟨o, z⟩ := crs.there p m
    rw [np] at z; cases z
  · rcases List.mem_cons.mp m with e | m
    · subst e
      refine ⟨g1.none np, ?_⟩
      cases e : F1 a with
      | none => rfl
      | some o => rw [g1.sub a o e] at np; cases np
    · exact fr a m⟩⟩
/-- keys of dicts as data -/
def keyD : D → Option Key
  | .int i => some (.inl i)
  | .str s => some (.inr s)
  | _ => none
def keyDs : List D → Option (List Key)
  | [] => some []
  | d :: ds => match keyD d, keyDs ds with
    | some k, some ks => some (k :: ks)
    | _, _ => none
def getK {κ : Type} [DecidableEq κ] (ks : List κ) (cs : List Cell) (k : κ) : Option Cell := ((ks.zip cs).find? fun kv => decide (kv.1 = k)).map (·.2)
/-- c[i] : read at once -/
def ixC : Cell → Cell → Option Cell
  | .im (.tuple ds), .im (.int i) => (atI ds i).map .im
  | .im (.list ds), .im (.int i) => (atI ds i).map .im
  | .ow cs, .im (.int i) => atI cs i
  | .dk ks cs, .im d => (keyD d).bind fun k => getK ks cs k
  | .fk ks cs, .im d => (keyD d).bind fun k => getK ks cs k
  | .dt ks cs, .im (.tuple ds) => (keyDs ds).bind fun k => getK ks cs k
  | .ft ks cs, .im (.tuple ds) => (keyDs ds).bind fun k => getK ks cs k
  | _, _ => none
@[simp] def xIx (Ta Tb : XE) : XE := fun γ K => Ta γ fun c1 => Tb γ fun c2 => ∃ c, ixC c1 c2 = some c ∧ K c
theorem atI_dp {K : PySem.W.Frag} {H : Hp} {vs : List V} {ds : List D} {i : Int} {d : D} (h : DpAll K H vs ds) (e : atI ds i = some d) : ∃ v, atI vs i = some v ∧ Dp K H v d := by
  unfold atI at e ⊢
  rw [DpAll.length h]
  cases q : ixN ds.length i with
  | none => rw [q] at e; cases e
  | some j =>
    rw [q] at e
    exact DpAll.get h e
theorem atI_cr {K : PySem.W.Frag} {da : Option Addr} {F H : Hp} {vs : List V} {cs : List Cell} {fp : List Addr} {i : Int} {c : Cell} (h : CRs K da F H vs cs fp) (e : atI cs i = some c) : ∃ v f, atI vs i = some v ∧ CR K da F H v c f ∧ ∀ a ∈ f, a ∈ fp := by
  unfold atI at e ⊢
  rw [h.length]
  cases q : ixN cs.length i with
  | none => rw [q] at e; cases e
  | some j =>
    rw [q] at e
    obtain ⟨v, f, h1, h2, h3, _⟩ := h.get e
    exact ⟨v, f, h1, h2, h3⟩
theorem getK_cr {K : PySem.W.Frag} {da : Option Addr} {F H : Hp} {κ : Type} [DecidableEq κ] {k : κ} {c : Cell} : ∀ {ks : List κ} {vs : List V} {cs : List Cell} {fp : List Addr}, CRs K da F H vs cs fp → ks.length = vs.length → getK ks cs k = some c →
    ∃ v f, valV (ks.zip vs) k = some v ∧ CR K da F H v c f ∧ ∀ a ∈ f, a ∈ fp
  | [], _, _, _, _, _, e => by simp [getK] at e
  | k0 :: ks, _, _, _, .nil, l, _ => by simp at l
  | k0 :: ks, v :: vs, c0 :: cs, _, .cons (f := f) (fp := fp) h hs, l, e => by
    unfold getK valV at *
    rw [List.zip_cons_cons, List.find?_cons] at e ⊢
    by_cases hk : k0 = k
    · rw [decide_eq_true hk] at e ⊢
      have e' : c0 = c := Option.some.inj e
      subst e'
      exact ⟨v, f, rfl, h, fun a m => List.mem_append_left _ m⟩
    · rw [decide_eq_false hk] at e ⊢
      obtain ⟨v', f', h1, h2, h3⟩ := getK_cr (k := k) hs (by simpa using l) e
      exact ⟨v', f', h1, h2, fun a m => List.mem_append_right _ (h3 a m)⟩
theorem keyD_dp {K : PySem.W.Frag} {H : Hp} {v : V} {d : D} {k : Key} (h : Dp K H v d) (e : keyD d = some k) : v = kV k := by
  cases h <;> simp [keyD] at e <;> subst e <;> rfl
theorem keyDs_dp {K : PySem.W.Frag} {H : Hp} : ∀ {vs : List V} {ds : List D} {ks : List Key}, DpAll K H vs ds → keyDs ds = some ks → vs = ks.map kV
  | _, _, _, .nil, e => by simp [keyDs] at e; subst e; rfl
  | _, _, _, .cons h hs, e => by
    unfold keyDs at e
    split at e
    · rename_i k ks e1 e2
      injection e with e; subst e
      rw [List.map_cons, keyD_dp h e1, keyDs_dp hs e2]
    · cases e
/-- a dict's entry, the key a tuple of any kind -/
def DGk (K : PySem.W.Frag) (H : Hp) (a : Addr) (y : V) (r : Option V) : Prop :=
  (∃ kvs k, Rd H a (.dK kvs) ∧ y = kV k ∧ r = valV kvs k) ∨ ∃ kvs k b, Rd H a (.dT kvs) ∧ y = .ref b ∧ SqT K H b (k.map kV) ∧ r = valV kvs k
theorem key_ofT {pins : List (Addr × Obj)} {σ : L2.St} {H : Hp} {s : Shared} {a : Addr} {ks : List Key} (I : Inv X pins σ H s) (h : SqT X.K H a (ks.map kV)) : (tupleKind (mixKind X.prog X.w)).is s.heap ks a := by
  obtain ⟨its, r, ⟨o, h1, h2, n, h3⟩, _⟩ := I.tuple h
  exact ⟨o, its.toArray, n, h1, h2, h3, by simpa using items_are r⟩
theorem dg_typeIs {pins : List (Addr × Obj)} {σ : L2.St} {H : Hp} {s : Shared} {a : Addr} {y : V} {o : Option V} (I : Inv X pins σ H s) (g : DGk X.K H a y o) : s.TypeIs (.ref a) "dict" := by
  rcases g with ⟨kvs, k, e, _⟩ | ⟨kvs, k, b, e, _⟩
  · exact dict_typeIs I (.inl ⟨kvs, .inl 0, e, rfl, rfl⟩ : DGet H a (kV (.inl 0)) (valV kvs (.inl 0)))
  · obtain ⟨_, _, xs, rel, dd⟩ := dt_rd I.hok e
    obtain ⟨o, es, ep, h1, h2, _⟩ := dd
    exact ⟨o, h1, h2.1⟩
theorem dg_get {A : Around} {E : Value → Shared → Prop} {pins : List (Addr × Obj)} {σ : L2.St} {H : Hp} {s : Shared} {a : Addr} {y v : V} {u : Value} {Q : Value → Shared → Prop} (hu : A.units + 1 < cLine) (I : Inv X pins σ H s) (g : DGk X.K H a y (some v)) (ry : RelV y u) (h : ∀ w' s', Inv X pins σ H s' → RelV v w' → Q w' s') :
    wpAny (model X.prog X.w) A (getItem (.ref a) u) Q E s := by
  rcases g with ⟨kvs, k, e, ey, l⟩ | ⟨kvs, k, b, e, ey, eb, l⟩
  · exact d_getItem hu I (.inl ⟨kvs, k, e, ey, l⟩) ry h
  · subst ey
    cases (show u = Value.ref b from ry)
    obtain ⟨z, hd, xs, rel, dd⟩ := dt_rd I.hok e
    obtain ⟨w', hw, rw'⟩ := RelO.some_of (v := v) (o := (atKey xs k).map (·.2)) (by rw [l]; exact rel.val k)
    obtain ⟨p, hp, hp2⟩ := Option.map_eq_some_iff.mp hw
    refine wpAny_getItem_heap (tupleKind_room_in1 hu) (key_ofT I eb) dd hp ?_
    rw [hp2]
    exact h w' _ (I.tok _) rw'
def rIxD (K : PySem.W.Frag) : R2 := fun x y H Q => ∃ a v, x = .ref a ∧ DGk K H a y (some v) ∧ Q v H
theorem ix_dict (hu : X.A.units + 1 < cLine) : IxR X (rIxD X.K) := by
  intro value slice pins s σ H x y v u Q I rx ry h hs
  obtain ⟨a, w, rfl, g, q⟩ := h
  cases rx
  exact tail_any (dg_typeIs I g) PySem.F.slot_dict_getitem.lookup (dg_get hu I g ry fun w' s3 I3 rw' => ⟨w, H, I3, rw', q⟩) hs
def rIxAll (K : PySem.W.Frag) : R2 := fun x y H Q => rIx K x y H Q ∨ rIxD K x y H Q
theorem ix_all (hu : X.A.units + 1 < cLine) : IxR X (rIxAll X.K) := ix_seq.or (ix_dict hu)
theorem dr_ix (hu : X.A.units + 1 < cLine) (ha : DR X B a Ta) (hb : DR X B b Tb) (hs : PlainIx b := by intro _ _; rfl) : DR X B (.Subscript a b pos) (xIx Ta Tb) :=
  pe_imp (pe_ix (ix_all hu) ha hb hs) fun σ H Q ⟨γ, F, Q', R, hT, k⟩ _ => ⟨γ, F, _, R, hT, fun x F1 H1 c1 f1 g1 sz1 cr1 fr1 q1 => ⟨γ, F1, _, R.step g1, q1, fun y F2 H2 c2 f2 g2 sz2 cr2 fr2 ⟨c, e, q⟩ => by
    have g := g1.trans g2
    have cr1' : CR X.K B.dd F2 H2 x c1 f1 := cr1.mono g2.ff fun a m o e => g2.hh a o (fr1 a m) e
    unfold ixC at e
    split at e
    · rename_i ds i _
      obtain ⟨d, e1, e2⟩ := Option.map_eq_some_iff.mp e
      subst e2
      obtain ⟨p, vs, rfl, t, al⟩ := cr1'.tup
      rw [cr2.int]
      obtain ⟨v, h1, h2⟩ := atI_dp al e1
      exact .inl (.inr (.inl ⟨p, vs, i, v, rfl, rfl, SqT.mono g2.sub t, h1, fun sz' => k v F2 H2 (.im d) [] g sz' (.im h2) (fun _ m => nomatch m) q⟩))
    · rename_i ds i _
      obtain ⟨d, e1, e2⟩ := Option.map_eq_some_iff.mp e
      subst e2
      rw [cr2.int]
      cases cr1' with
      | im h => cases h with
        | lst t al =>
          obtain ⟨v, h1, h2⟩ := atI_dp al e1
          exact .inl (.inl ⟨_, _, i, v, rfl, rfl, g2.sub.seq t, h1, fun sz' => k v F2 H2 (.im d) [] g sz' (.im h2) (fun _ m => nomatch m) q⟩)
    · rename_i cs i _
      rw [cr2.int]
      cases cr1' with
      | ow t al =>
        obtain ⟨v, f, h1, h2, h3⟩ := atI_cr al e
        exact .inl (.inl ⟨_, _, i, v, rfl, rfl, .inl (.inl t), h1, fun sz' => k v F2 H2 c f g sz' h2 (fun a m => fr1 a (List.mem_cons_of_mem _ (h3 a m))) q⟩)
    · rename_i ks cs d _
      obtain ⟨key, e1, e2⟩ := Option.bind_eq_some_iff.mp e
      cases cr2 with
      | im h2 =>
        cases cr1' with
        | dk t l al =>
          obtain ⟨v, f, h1, h3, h4⟩ := getK_cr al l e2
          exact .inr ⟨_, v, rfl, .inl ⟨_, key, .inl t, keyD_dp h2 e1, h1.symm⟩, fun sz' => k v F2 H2 c f g sz' h3 (fun a m => fr1 a (List.mem_cons_of_mem _ (h4 a m))) q⟩
    · rename_i ks cs d _
      obtain ⟨key, e1, e2⟩ := Option.bind_eq_some_iff.mp e
      cases cr2 with
      | im h2 =>
        cases cr1' with
        | fk t l al =>
          obtain ⟨v, f, h1, h3, h4⟩ := getK_cr al l e2
          exact .inr ⟨_, v, rfl, .inl ⟨_, key, .inl (g2.sub _ _ t), keyD_dp h2 e1, h1.symm⟩, fun sz' => k v F2 H2 c f g sz' h3 (fun a m => nomatch h4 a m) q⟩
    · rename_i ks cs ds _
      obtain ⟨key, e1, e2⟩ := Option.bind_eq_some_iff.mp e
      obtain ⟨p, vs2, rfl, t2, al2⟩ := cr2.tup
      cases cr1' with
      | dt t l al =>
        obtain ⟨v, f, h1, h3, h4⟩ := getK_cr al l e2
        have ek := keyDs_dp al2 e1
        subst ek
        exact .inr ⟨_, v, rfl, .inr ⟨_, key, p, .inl t, rfl, SqT.mono g2.sub t2, h1.symm⟩, fun sz' => k v F2 H2 c f g sz' h3 (fun a m => fr1 a (List.mem_cons_of_mem _ (h4 a m))) q⟩
    · rename_i ks cs ds _
      obtain ⟨key, e1, e2⟩ := Option.bind_eq_some_iff.mp e
      obtain ⟨p, vs2, rfl, t2, al2⟩ := cr2.tup
      cases cr1' with
      | ft t l al =>
        obtain ⟨v, f, h1, h3, h4⟩ := getK_cr al l e2
        have ek := keyDs_dp al2 e1
        subst ek
        exact .inr ⟨_, v, rfl, .inr ⟨_, key, p, .inl (g2.sub _ _ t), rfl, SqT.mono g2.sub t2, h1.symm⟩, fun sz' => k v F2 H2 c f g sz' h3 (fun a m => nomatch h4 a m) q⟩
    · cases e⟩⟩
end
end DL
set_option maxHeartbeats 1000000
namespace DL
open PySem PySem.Spec PyProof.Rows L2
section
open HT
variable {prog : Program} {w : World} {A : Around} {E : Value → Shared → Prop} {s : Shared}
theorem sliceApplied_rev {sl : Addr} {vs : Value} {n : Nat} {Q : Int × Int × Nat → Shared → Prop} (hs : s.heap.IsSliceOf sl .none .none vs) (ps : IsPart vs (some (-1)))
    (h : Q ((n : Int) - 1, -1, n) s) : wpAny (model prog w) A (Builtin.Slice.sliceApplied (.ref sl) (pure (n : Int))) Q E s := by
  obtain ⟨os, hos, hcs, hds⟩ := id hs
  unfold Builtin.Slice.sliceApplied Builtin.Slice.sliceFields
  refine wpAny_bind (wpAny_bind (wpAny_field hos hds (x := .none) rfl (wpAny_bind (wpAny_field hos hds (x := .none) rfl (wpAny_bind (wpAny_field hos hds (x := vs) rfl (wpAny_pure ?_)))))))
  refine wpAny_bind (slicePart_ ps ?_)
  show wpAny _ _ (if ((-1 : Int) == 0) = true then _ else _) _ _ s
  rw [if_neg (by decide)]
  refine wpAny_bind (slicePart_none (wpAny_bind (slicePart_none (wpAny_bind (wpAny_pure ?_)))))
  show wpAny _ _ (match Builtin.Slice.sliceAdjust none none (-1) (n : Int) with | (lo, hi) => pure (lo, (-1 : Int), Builtin.Slice.slicePlaces lo hi (-1))) _ _ s
  have e1 : Builtin.Slice.sliceAdjust none none (-1) (n : Int) = ((n : Int) - 1, -1) := rfl
  rw [e1]
  show wpAny _ _ (pure ((n : Int) - 1, (-1 : Int), Builtin.Slice.slicePlaces ((n : Int) - 1) (-1) (-1))) _ _ s
  have e2 : Builtin.Slice.slicePlaces ((n : Int) - 1) (-1) (-1) = n := by
    unfold Builtin.Slice.slicePlaces
    rw [if_neg (by decide)]
    by_cases h : (n : Int) - 1 > -1
    · rw [if_pos h]
      have e : ((n : Int) - 1 - -1 - 1) / (- -1) + 1 = (n : Int) := by
        rw [show (- -1 : Int) = 1 by decide, Int.ediv_one]
        omega
      rw [e]
      rfl
    · rw [if_neg h]
      have : n = 0 := by omega
      subst this
      rfl
  rw [e2]
  exact wpAny_pure h
theorem filterMap_cg {α β : Type} {f g : α → Option β} : ∀ {l : List α}, (∀ x ∈ l, f x = g x) → l.filterMap f = l.filterMap g
  | [], _ => rfl
  | x :: l, h => by
    rw [List.filterMap_cons, List.filterMap_cons, h x List.mem_cons_self, filterMap_cg fun y m => h y (List.mem_cons_of_mem _ m)]
theorem pick_rev (xs : Array Value) : ((List.range xs.size).filterMap fun (m : Nat) => xs[((xs.size : Int) - 1 + (m : Int) * (-1)).toNat]?).toArray = xs.toList.reverse.toArray := by
  have e : (List.range xs.size).filterMap (fun (m : Nat) => xs[((xs.size : Int) - 1 + (m : Int) * (-1)).toNat]?) = ((List.range xs.size).map fun k => xs.size - 1 - k).filterMap (xs[·]?) := by
    rw [List.filterMap_map]
    refine filterMap_cg fun m hm => ?_
    have := List.mem_range.mp hm
    show _ = xs[xs.size - 1 - m]?
    congr 1
    omega
  rw [e, PySem.W.krv_range, List.filterMap_reverse, PySem.W.krv_all]
theorem getItem_tuple_rev {t sl : Addr} {items : Array Value} {vs : Value} {Q : Value → Shared → Prop} (ht : IsTup s.heap t items) (hs : s.heap.IsSliceOf sl .none .none vs) (ps : IsPart vs (some (-1)))
    (h : Q (.ref s.heap.objs.size) { s with heap := s.heap.push { cls := .type "tuple", data := .seq items.toList.reverse.toArray } })
    (hsz : items.size ≤ sizeLine) : wpAny (model prog w) A (getItem (.ref t) (.ref sl)) Q E s := by
  have htake : sizeOk (.seq items.toList.reverse.toArray) := by
    show items.toList.reverse.toArray.size ≤ sizeLine
    rw [List.size_toArray, List.length_reverse, Array.length_toList]
    exact hsz
  obtain ⟨os, hos, hcs, hds⟩ := id hs
  have hTs : s.TypeIs (.ref sl) "slice" := ⟨os, hos, hcs⟩
  unfold getItem
  try with_reducible refine wpAny_holding ?_
  first | refine wpAny_bind (wpAny_pure ?_) | skip
  refine wpAny_bind (wpAny_sequenceKey ht.typeIs (by decide) ?_)
  refine wpAny_bind (wpAny_callSpecial?_slot (name := Str.ofString "__getitem__") ht.typeIs PyProof.Rows.slot_tuple_getitem
    (wpAny_call_entry PyProof.Rows.slot_tuple_getitem ht.typeIs entry_tuple_getitem ?_ (args_tuple_getitem _ _)))
  show wpAny _ _ (Builtin.Tuple.tupleItemsOf (.ref t) >>= _) _ _ s
  refine wpAny_bind (tupleItemsOf_ ht ?_)
  refine wpAny_bind (wpAny_typeOf hTs ?_)
  rw [if_pos (by decide)]
  refine wpAny_bind (sliceApplied_rev hs ps ?_)
  have hno : ¬ ((((items.size : Int) - 1) == 0 && (-1 : Int) == 1 && items.size == items.size) = true) := by
    intro q
    rw [Bool.and_eq_true, Bool.and_eq_true] at q
    exact absurd q.1.2 (by decide)
  show wpAny _ _ (if (((items.size : Int) - 1) == 0 && (-1 : Int) == 1 && items.size == items.size) = true then _ else _) _ _ s
  rw [if_neg hno, pick_rev]
  first
    | exact wpAny_bind (m := Builtin.Tuple.tupleExact _) (wpAny_newObj_type (wpAny_pure ⟨_, rfl, wpAny_pure h⟩) htake)
    | exact wpAny_bind (m := Builtin.Tuple.tupleExact _) (wpAny_newObj_type (wpAny_bind (wpAny_pure (wpAny_pure ⟨_, rfl, wpAny_pure h⟩))) htake)
    | exact wpAny_bind (wpAny_bind (m := Builtin.Tuple.tupleExact _) (wpAny_newObj_type (wpAny_pure (wpAny_pure ⟨_, rfl, wpAny_pure h⟩)) htake))
    | exact wpAny_bind (wpAny_bind (m := Builtin.Tuple.tupleExact _) (wpAny_newObj_type (wpAny_pure ⟨_, rfl, wpAny_pure h⟩) htake))
end
def tRevA (K : PySem.W.Frag) (te : TE) : TE := fun σ H Q => te σ H fun x H1 => ∃ a xs, x = .ref a ∧
  ((SqL K H1 a xs ∧ ∀ p, H1 p = none → Q (.ref p) (upd H1 p (.lst xs.reverse))) ∨ (SqT K H1 a xs ∧ ∀ p, H1 p = none → Q (.ref p) (upd H1 p (.tup xs.reverse))))
theorem pe_revA {X : Cx} {e : Expr} {te : TE} {k : Nat} {p1 p2 p3 pos : Pos} (he : PE X e te) : PE X (.Subscript e (.Slice none none (some (.UnaryOp .USub (.Constant (.int 1) k p1) p2)) p3) pos) (tRevA X.K te) := by
  refine ⟨fun pins s σ H Q I h => ?_⟩
  refine Subscript_ (thn (he.run pins s σ H _ I h) fun v s1 ⟨x, H1, I1, r1, q1⟩ => ?_)
  obtain ⟨a, xs, ex, hx⟩ := q1
  subst ex
  cases r1
  have hst : PO X (some (.UnaryOp .USub (.Constant (.int 1) k p1) p2)) (tPart (tUn (rU fun i => .int (-i)) (tC (.int 1)))) := po_some (pe_un un_neg pe_int)
  refine wpAny_Slice (thn (po_none.run pins s1 σ H1 (fun o H2 => o = none ∧ H2 = H1) I1 ⟨rfl, rfl⟩) fun vl s2 ⟨l, H2, I2, pl, el, e2⟩ => ?_)
  subst el e2
  refine thn (po_none.run pins s2 σ H2 (fun o H3 => o = none ∧ H3 = H2) I2 ⟨rfl, rfl⟩) fun vu s3 ⟨u, H3, I3, pu, eu, e3⟩ => ?_
  subst eu e3
  refine thn (hst.run pins s3 σ H3 (fun o H4 => o = some (-1) ∧ H4 = H3) I3 ⟨1, rfl, -1, rfl, rfl, rfl⟩) fun vs s4 ⟨o, H4, I4, ps, eo, e4⟩ => ?_
  subst eo e4
  have I5 : Inv X pins σ H4 { s4 with heap := s4.heap.push { cls := .type "slice", data := .fields #[vl, vu, vs] } } := I4.kept (t' := s4.toks) fun b ob q => Heap.get?_push_of_some _ q
  show wpAny (model X.prog X.w) X.A (subscriptTail e (.Slice none none (some (.UnaryOp .USub (.Constant (.int 1) k p1) p2)) p3) (.ref a) (.ref s4.heap.objs.size)) (EP X pins σ Q) X.xe { s4 with heap := s4.heap.push { cls := .type "slice", data := .fields #[vl, vu, vs] } }
  rcases hx with ⟨hx, q⟩ | ⟨hx, q⟩
  · obtain ⟨its, r, ht, hz⟩ := I5.list hx
    have hlen := r.length
    refine tail_any (ops := [.ref a, .ref s4.heap.objs.size]) ht.isList.typeIs (PySem.slot_list_getitem.lookup) ?_ (by with_unfolding_all rfl)
    refine wpAny_getItem_list_slice ht.isList (Heap.IsSliceOf.new _ vl vu vs) pl pu ps (by decide) ?_ (by rw [List.size_toArray]; omega)
    rw [PySem.W.krv_pick]
    refine ⟨.ref _, _, I5.laid (t' := s4.toks) (o := .lst xs.reverse) (fun b ob q => Heap.get?_push_of_some _ q) (Nat.le_refl _) ?_, rfl, q _ (I5.hok.fresh (Nat.le_refl _))⟩
    exact ⟨by rw [List.length_reverse]; exact hz, _, 0, r.reverse, Heap.get?_push_size _ rfl⟩
  · obtain ⟨its, r, ht, hz⟩ := I5.tuple hx
    have hlen := r.length
    refine tail_any (ops := [.ref a, .ref s4.heap.objs.size]) ht.typeIs (PyProof.Rows.slot_tuple_getitem.lookup) ?_ (by with_unfolding_all rfl)
    cases pl
    cases pu
    refine getItem_tuple_rev ht (Heap.IsSliceOf.new _ _ _ vs) ps ?_ (by rw [List.size_toArray]; omega)
    refine ⟨.ref _, _, I5.laid (t' := s4.toks) (o := .tup xs.reverse) (fun b ob q => Heap.get?_push_of_some _ q) (Nat.le_refl _) ?_, rfl, q _ (I5.hok.fresh (Nat.le_refl _))⟩
    exact ⟨by rw [List.length_reverse]; exact hz, _, r.reverse, IsTup.new _ _⟩
def cut {α : Type} (xs : List α) (lo hi : Option Int) : List α := (xs.drop (HT.sIx xs.length 0 lo)).take (HT.sIx xs.length xs.length hi - HT.sIx xs.length 0 lo)
theorem cut_dp {K : PySem.W.Frag} {H : Hp} {vs : List V} {ds : List D} (h : DpAll K H vs ds) (lo hi : Option Int) : DpAll K H (cutV vs lo hi) (cut ds lo hi) := by
  unfold cutV cut
  rw [DpAll.length h]
  exact DpAll.take _ (DpAll.drop _ h)
abbrev XO := List Cell → (Option Int → Prop) → Prop
def liftO (K : PySem.W.Frag) (B : Bs) (T : XO) : TO := fun σ H Q => ∃ γ F Q', Rel K B γ F H σ ∧ T γ Q' ∧ ∀ o F' H', Go B F H F' H' → Q' o → Q o H'
def DO (X : Cx) (B : Bs) (e : Option Expr) (T : XO) : Prop := PO X e (liftO X.K B T)
@[simp] def xNoPart : XO := fun _ K => K none
@[simp] def xPart (T : XE) : XO := fun γ K => T γ fun c => ∃ i, c = .im (.int i) ∧ K (some i)
section
variable {X : Cx} {B : Bs} {e a b : Expr} {lo hi : Option Expr} {T Ta : XE} {Tl Th : XO} {U : XA} {pos p2 : Pos}
theorem po_imp {e : Option Expr} {t t' : TO} (h : PO X e t) (k : ∀ σ H Q, t' σ H Q → t σ H Q) : PO X e t' := ⟨fun pins s σ H Q I h' => h.run pins s σ H _ I (k _ _ _ h')⟩
theorem do_none : DO X B none xNoPart := po_imp po_none fun σ H Q ⟨γ, F, Q', R, hT, k⟩ => k none F H R.refl hT
theorem do_some (h : DR X B e T) : DO X B (some e) (xPart T) := po_imp (po_some h) fun σ H Q ⟨γ, F, Q', R, hT, k⟩ => ⟨γ, F, _, R, hT, fun v F1 H1 c f g sz cr fr ⟨i, e, q⟩ => by
  subst e
  rw [cr.int]
  exact ⟨i, rfl, k (some i) F1 H1 g q⟩⟩
/-- a tuple's, or a list's, part -/
def slC : Cell → Option (List D × Bool)
  | .im (.tuple ds) => some (ds, true)
  | c => (lstF c).map fun ds => (ds, false)
@[simp] def mkSq (t : Bool) (ds : List D) : Cell := if t = true then .im (.tuple ds) else .ow (ds.map .im)
@[simp] def xSl (Ta : XE) (Tl Th : XO) : XE := fun γ K => Ta γ fun c => Tl γ fun l => Th γ fun u => ∃ ds t, slC c = some (ds, t) ∧ K (mkSq t (cut ds l u))
theorem slC_cases {c : Cell} {ds : List D} {t : Bool} (h : slC c = some (ds, t)) : (c = .im (.tuple ds) ∧ t = true) ∨ (lstF c = some ds ∧ t = false) := by
  unfold slC at h
  split at h
  · injection h with h; injection h with h1 h2; subst h1 h2; exact .inl ⟨rfl, rfl⟩
  · obtain ⟨es, h1, h2⟩ := Option.map_eq_some_iff.mp h
    injection h2 with h2 h3; subst h2 h3
    exact .inr ⟨h1, rfl⟩
theorem de_sl (ha : DR X B a Ta) (hl : DO X B lo Tl) (hu : DO X B hi Th) : DE X B (.Subscript a (.Slice lo hi none p2) pos) (xSl Ta Tl Th) :=
  pe_imp (pe_slice (sl_list.or sl_tupA) ha hl hu) fun σ H Q ⟨γ, F, Q', R, hT, k⟩ _ => ⟨γ, F, _, R, hT, fun x F1 H1 c f g1 sz cr fr q => ⟨γ, F1, _, R.step g1, q, fun l F2 H2 g2 q2 => ⟨γ, F2, _, (R.step g1).step g2, q2, fun u F3 H3 g3 q3 => by
    have gk : Gives X.K B F H Q' Q := k
    have g23 := g2.trans g3
    have g := g1.trans g23
    obtain ⟨ds, t, e, q3⟩ := q3
    have cr' : CR X.K B.dd F3 H3 x c f := cr.mono g23.ff fun a m o e => g23.hh a o (fr a m) e
    rcases slC_cases e with ⟨e1, e2⟩ | ⟨e1, e2⟩
    · subst e1 e2
      obtain ⟨p, vs, rfl, tt, al⟩ := cr'.tup
      have q4 : Q' (.im (.tuple (cut ds l u))) := q3
      refine .inr ⟨p, vs, rfl, SqT.mono g3.sub tt, fun hw => ?_, fun hw p np => (gk.from g).tup g3.sub g3.dk (cut_dp al l u) q4 np⟩
      have ec : cut ds l u = ds := by
        unfold cut
        rw [← DpAll.length al, hw.1, hw.2, List.drop_zero, Nat.sub_zero, DpAll.length al, List.take_length]
      rw [ec] at q4
      exact (gk.from g).data g3.sub g3.dk (.tup tt al) q4
    · subst e2
      obtain ⟨p, vs, rfl, tt, al⟩ := cr'.frl g3.sub e1
      exact .inl ⟨p, vs, rfl, sq_of g3.sub tt, fun p np => (gk.from g).lstD g3.sub g3.dk (cut_dp al l u) q3 np⟩⟩⟩⟩
@[simp] def xRev (Ta : XE) : XE := fun γ K => Ta γ fun c => ∃ ds t, slC c = some (ds, t) ∧ K (mkSq t ds.reverse)
theorem de_rev {k : Nat} {p1 q1 p3 : Pos} (ha : DR X B a Ta) : DE X B (.Subscript a (.Slice none none (some (.UnaryOp .USub (.Constant (.int 1) k p1) q1)) p3) pos) (xRev Ta) :=
  pe_imp (pe_revA ha) fun σ H Q ⟨γ, F, Q', R, hT, kk⟩ _ => ⟨γ, F, _, R, hT, fun x F1 H1 c f g1 sz cr fr ⟨ds, t, e, q⟩ => by
    have gk : Gives X.K B F H Q' Q := kk
    rcases slC_cases e with ⟨e1, e2⟩ | ⟨e1, e2⟩
    · subst e1 e2
      obtain ⟨p, vs, rfl, tt, al⟩ := cr.tup
      exact ⟨p, vs, rfl, .inr ⟨SqT.mono g1.sub tt, fun p np => (gk.from g1).tup g1.sub g1.dk (DpAll.rev al) q np⟩⟩
    · subst e2
      obtain ⟨p, vs, rfl, tt, al⟩ := cr.frl g1.sub e1
      exact ⟨p, vs, rfl, .inl ⟨sq_of g1.sub tt, fun p np => (gk.from g1).lstD g1.sub g1.dk (DpAll.rev al) q np⟩⟩⟩
/-- a rule by values, told by cells -/
def RAOk (K : PySem.W.Frag) (B : Bs) (r : List V → Hp → VK → Prop) (R : List Cell → (Cell → Prop) → Prop) : Prop :=
  ∀ F H vs cs fp K' Q, Same F H → DeckOk B H → SzH K H → CRs K B.dd F H vs cs fp → (∀ a ∈ fp, a ∉ B.ms) → R cs K' → Gives K B F H K' Q → r vs H (fun v H' => SzH K H' → Q v H')
@[simp] def xCB (R : List Cell → (Cell → Prop) → Prop) (U : XA) : XE := fun γ K => U γ fun cs => R cs K
variable {x : Str} {p : Pos} {es : List Expr} {id Ty : String} {r : List V → Hp → VK → Prop} {R : List Cell → (Cell → Prop) → Prop}
/-- what holds of the heap is known behind the arguments, too -/
theorem pa_sz {t : TA} (h : PA X es t) : PA X es (fun σ H Q => t σ H fun vs H' => SzH X.K H' → Q vs H') :=
  ⟨fun pos pins s σ H Q I h' => thn (h.run pos pins s σ H _ I h') fun u s1 ⟨v, H', I', r, q⟩ => ⟨v, H', I', r, q (inv_sz I')⟩⟩
theorem cb_core {σ : L2.St} {H : Hp} {Q : VK} (ok : RAOk X.K B r R) (h : liftE X.K B (xCB R U) σ H Q) : liftB X.K B U σ H fun vs H1 => SzH X.K H1 → r vs H1 fun v H' => SzH X.K H' → Q v H' := by
  obtain ⟨γ, F, Q', Rl, hT, k⟩ := h
  have gk : Gives X.K B F H Q' Q := k
  exact ⟨γ, F, _, Rl, hT, fun vs F1 H1 cs fp g1 crs fr q sz => ok F1 H1 vs cs fp Q' Q g1.sub g1.dk sz crs fr q (gk.from g1)⟩
theorem de_cb {t : Expr} (ok : RAOk X.K B r R) (h : PE X t (tCB r (fun σ H Q => liftB X.K B U σ H fun vs H' => SzH X.K H' → Q vs H'))) : DE X B t (xCB R U) :=
  pe_imp h fun σ H Q h' _ => cb_core ok h'
end
section
variable {K : PySem.W.Frag} {B : Bs}
def lenC : Cell → Option Nat
  | .im (.tuple ds) => some ds.length
  | .im (.list ds) => some ds.length
  | .ow cs => some cs.length
  | _ => none
@[simp] def cLen : List Cell → (Cell → Prop) → Prop := fun cs Q => ∃ c n, cs = [c] ∧ lenC c = some n ∧ Q (.im (.int n))
theorem crs_one {da : Option Addr} {F H : Hp} {vs : List V} {c : Cell} {fp : List Addr} (h : CRs K da F H vs [c] fp) : ∃ v, vs = [v] ∧ CR K da F H v c fp := by
  cases h with
  | cons h hs => cases hs; exact ⟨_, rfl, by rwa [List.append_nil]⟩
theorem crs_two {da : Option Addr} {F H : Hp} {vs : List V} {c d : Cell} {fp : List Addr} (h : CRs K da F H vs [c, d] fp) : ∃ v w f g, vs = [v, w] ∧ CR K da F H v c f ∧ CR K da F H w d g := by
  cases h with
  | cons h hs => cases hs with
    | cons h2 hs => cases hs; exact ⟨_, _, _, _, rfl, h, h2⟩
theorem lenC_ok {da : Option Addr} {F H : Hp} {v : V} {c : Cell} {fp : List Addr} {n : Nat} (s : Same F H) (h : CR K da F H v c fp) (e : lenC c = some n) : LenV K v H n := by
  cases h with
  | im h =>
    cases h with
    | lst h1 h2 =>
      simp only [lenC, Option.some.injEq] at e
      exact .inl ⟨_, s.seq h1, by rw [DpAll.length h2]; exact e.symm⟩
    | tup h1 h2 =>
      simp only [lenC, Option.some.injEq] at e
      exact .inr ⟨_, SqT.mono s h1, by rw [DpAll.length h2]; exact e.symm⟩
    | _ => simp [lenC] at e
  | ow h hs =>
    simp only [lenC, Option.some.injEq] at e
    exact .inl ⟨_, .inl (.inl h), by rw [hs.length]; exact e.symm⟩
  | _ => simp [lenC] at e
theorem ok_len : RAOk K B (fun xs H Q => ∃ x n, xs = [x] ∧ LenV K x H n ∧ Q (.int n) H) cLen := fun F H vs cs fp K' Q s d sz crs fr ⟨c, n, e, e2, q⟩ g => by
  subst e
  obtain ⟨v, rfl, h⟩ := crs_one crs
  exact ⟨v, n, rfl, lenC_ok s h e2, g.data s d (.int _) q⟩
/-- tuple(x), list(x) -/
def seqF : Cell → Option (List D)
  | .im (.tuple ds) => some ds
  | c => lstF c
@[simp] def cTup : List Cell → (Cell → Prop) → Prop := fun cs Q => ∃ c ds, cs = [c] ∧ seqF c = some ds ∧ Q (.im (.tuple ds))
@[simp] def cLst : List Cell → (Cell → Prop) → Prop := fun cs Q => ∃ c ds, cs = [c] ∧ seqF c = some ds ∧ Q (.ow (ds.map .im))
theorem seqF_cases {c : Cell} {ds : List D} (h : seqF c = some ds) : c = .im (.tuple ds) ∨ lstF c = some ds := by
  unfold seqF at h
  split at h
  · injection h with h; subst h; exact .inl rfl
  · exact .inr h
theorem ok_tup : RAOk K B (fun xs H Q => ∃ p ys, xs = [V.ref p] ∧ ((SqL K H p ys ∧ ∀ (l : Addr), H l = none → Q (V.ref l) (upd H l (HO.tup ys))) ∨ SqT K H p ys ∧ Q (V.ref p) H)) cTup := fun F H vs cs fp K' Q s d sz crs fr ⟨c, ds, e, e2, q⟩ g => by
  subst e
  obtain ⟨v, rfl, h⟩ := crs_one crs
  rcases seqF_cases e2 with e3 | e3
  · subst e3
    obtain ⟨a, vs, rfl, t, al⟩ := h.tup
    exact ⟨a, vs, rfl, .inr ⟨SqT.mono s t, g.data s d (.tup t al) q⟩⟩
  · obtain ⟨a, vs, rfl, t, al⟩ := h.frl s e3
    exact ⟨a, vs, rfl, .inl ⟨sq_of s t, fun p np => g.tup s d al q np⟩⟩
theorem ok_lst : RAOk K B (fun xs H Q => ∃ p ys, xs = [V.ref p] ∧ (SqL K H p ys ∨ SqT K H p ys) ∧ ∀ (l : Addr), H l = none → Q (V.ref l) (upd H l (HO.lst ys))) cLst := fun F H vs cs fp K' Q s d sz crs fr ⟨c, ds, e, e2, q⟩ g => by
  subst e
  obtain ⟨v, rfl, h⟩ := crs_one crs
  rcases seqF_cases e2 with e3 | e3
  · subst e3
    obtain ⟨a, vs, rfl, t, al⟩ := h.tup
    exact ⟨a, vs, rfl, .inr (SqT.mono s t), fun p np => g.lstD s d al q np⟩
  · obtain ⟨a, vs, rfl, t, al⟩ := h.frl s e3
    exact ⟨a, vs, rfl, .inl (sq_of s t), fun p np => g.lstD s d al q np⟩
/-- all, any of lists of bools; sum, min, max of lists of ints -/
@[simp] def cAll : List Cell → (Cell → Prop) → Prop := fun cs Q => ∃ (c : Cell) (bs : List Bool), cs = [c] ∧ lstF c = some (bs.map PyData.bool) ∧ Q (.im (.bool (bs.all id)))
@[simp] def cAny : List Cell → (Cell → Prop) → Prop := fun cs Q => ∃ (c : Cell) (bs : List Bool), cs = [c] ∧ lstF c = some (bs.map PyData.bool) ∧ Q (.im (.bool (bs.any id)))
@[simp] def cSum : List Cell → (Cell → Prop) → Prop := fun cs Q => ∃ (c : Cell) (ns : List Int), cs = [c] ∧ lstF c = some (ns.map PyData.int) ∧ Q (.im (.int ns.sum))
def cMinL : List Cell → (Cell → Prop) → Prop := fun cs Q => ∃ (c : Cell) (ns : List Int), cs = [c] ∧ lstF c = some (ns.map PyData.int) ∧ 0 < ns.length ∧ ∀ m, m ∈ ns → (∀ y, y ∈ ns → m ≤ y) → Q (.im (.int m))
def cMaxL : List Cell → (Cell → Prop) → Prop := fun cs Q => ∃ (c : Cell) (ns : List Int), cs = [c] ∧ lstF c = some (ns.map PyData.int) ∧ 0 < ns.length ∧ ∀ m, m ∈ ns → (∀ y, y ∈ ns → y ≤ m) → Q (.im (.int m))
theorem ok_all : RAOk K B (rAll K) cAll := fun F H vs cs fp K' Q s d sz crs fr ⟨c, bs, e, e2, q⟩ g => by
  subst e
  obtain ⟨v, rfl, h⟩ := crs_one crs
  obtain ⟨a, vs, rfl, t, al⟩ := h.frl s e2
  have e := DpAll.bls al
  subst e
  exact ⟨a, bs, rfl, sq_of s t, g.data s d (.bl _) q⟩
theorem ok_any : RAOk K B (rAny K) cAny := fun F H vs cs fp K' Q s d sz crs fr ⟨c, bs, e, e2, q⟩ g => by
  subst e
  obtain ⟨v, rfl, h⟩ := crs_one crs
  obtain ⟨a, vs, rfl, t, al⟩ := h.frl s e2
  have e := DpAll.bls al
  subst e
  exact ⟨a, bs, rfl, sq_of s t, g.data s d (.bl _) q⟩
theorem ok_sum : RAOk K B (rSum K) cSum := fun F H vs cs fp K' Q s d sz crs fr ⟨c, bs, e, e2, q⟩ g => by
  subst e
  obtain ⟨v, rfl, h⟩ := crs_one crs
  obtain ⟨a, vs, rfl, t, al⟩ := h.frl s e2
  have e := DpAll.ints al
  subst e
  exact ⟨a, bs, rfl, sq_of s t, g.data s d (.int _) q⟩
theorem ok_minL : RAOk K B (rMin K) cMinL := fun F H vs cs fp K' Q s d sz crs fr ⟨c, bs, e, e2, hl, q⟩ g => by
  subst e
  obtain ⟨v, rfl, h⟩ := crs_one crs
  obtain ⟨a, vs, rfl, t, al⟩ := h.frl s e2
  have e := DpAll.ints al
  subst e
  exact ⟨a, bs, rfl, sq_of s t, hl, fun m h1 h2 => g.data s d (.int _) (q m h1 h2)⟩
theorem ok_maxL : RAOk K B (rMax K) cMaxL := fun F H vs cs fp K' Q s d sz crs fr ⟨c, bs, e, e2, hl, q⟩ g => by
  subst e
  obtain ⟨v, rfl, h⟩ := crs_one crs
  obtain ⟨a, vs, rfl, t, al⟩ := h.frl s e2
  have e := DpAll.ints al
  subst e
  exact ⟨a, bs, rfl, sq_of s t, hl, fun m h1 h2 => g.data s d (.int _) (q m h1 h2)⟩
@[simp] def cInt : List Cell → (Cell → Prop) → Prop := fun cs Q => (∃ i, cs = [.im (.int i)] ∧ Q (.im (.int i))) ∨ ∃ k, cs = [.im (.bool k)] ∧ Q (.im (.int (if k then 1 else 0)))
theorem ok_int : RAOk K B (fun xs H Q => (∃ i, xs = [.int i] ∧ Q (.int i) H) ∨ ∃ k, xs = [.bl k] ∧ Q (.int (if k then 1 else 0)) H) cInt := fun F H vs cs fp K' Q s d sz crs fr h g => by
  rcases h with ⟨i, e, q⟩ | ⟨i, e, q⟩
  · subst e
    obtain ⟨v, rfl, h⟩ := crs_one crs
    rw [h.int]
    exact .inl ⟨i, rfl, g.data s d (.int _) q⟩
  · subst e
    obtain ⟨v, rfl, h⟩ := crs_one crs
    rw [h.bl]
    exact .inr ⟨i, rfl, g.data s d (.int _) q⟩
@[simp] def cMax2 : List Cell → (Cell → Prop) → Prop := fun cs Q => ∃ i j, cs = [.im (.int i), .im (.int j)] ∧ Q (.im (.int (if j > i then j else i)))
@[simp] def cMin2 : List Cell → (Cell → Prop) → Prop := fun cs Q => ∃ i j, cs = [.im (.int i), .im (.int j)] ∧ Q (.im (.int (if j < i then j else i)))
theorem ok_max2 : RAOk K B (fun xs H Q => ∃ i j, xs = [.int i, .int j] ∧ Q (.int (if j > i then j else i)) H) cMax2 := fun F H vs cs fp K' Q s d sz crs fr ⟨i, j, e, q⟩ g => by
  subst e
  obtain ⟨v, w, f1, f2, rfl, h1, h2⟩ := crs_two crs
  rw [h1.int, h2.int]
  exact ⟨i, j, rfl, g.data s d (.int _) q⟩
theorem ok_min2 : RAOk K B (fun xs H Q => ∃ i j, xs = [.int i, .int j] ∧ Q (.int (if j < i then j else i)) H) cMin2 := fun F H vs cs fp K' Q s d sz crs fr ⟨i, j, e, q⟩ g => by
  subst e
  obtain ⟨v, w, f1, f2, rfl, h1, h2⟩ := crs_two crs
  rw [h1.int, h2.int]
  exact ⟨i, j, rfl, g.data s d (.int _) q⟩
end
def tyC : Cell → Option String
  | .im .none => some "NoneType"
  | .im (.bool _) => some "bool"
  | .im (.int _) => some "int"
  | .im (.str _) => some "str"
  | .im (.tuple _) => some "tuple"
  | .im (.list _) => some "list"
  | .ow _ => some "list"
  | _ => none
theorem tyC_ok {K : PySem.W.Frag} {da : Option Addr} {F H : Hp} {v : V} {c : Cell} {fp : List Addr} {T : String} (s : Same F H) (h : CR K da F H v c fp) (e : tyC c = some T) : TyX K H v (.type T) := by
  cases h with
  | im h =>
    cases h with
    | non => simp [tyC] at e; subst e; exact .base .non
    | bl b => simp [tyC] at e; subst e; exact .base (.bl b)
    | int b => simp [tyC] at e; subst e; exact .base (.int b)
    | str b => simp [tyC] at e; subst e; exact .base (.str b)
    | lst h1 h2 =>
      simp [tyC] at e; subst e
      rcases h1 with (h1 | ⟨o, h1⟩) | ⟨o, its, n, h1, h3, _⟩
      · exact .base (.lst (s _ _ h1))
      · exact .base (.frz (s _ _ h1))
      · exact .kList h1 h3
    | tup h1 h2 =>
      simp [tyC] at e; subst e
      rcases h1 with (h1 | ⟨o, h1⟩) | ⟨o, its, n, h1, h3, _⟩
      · exact .base (.tup (s _ _ h1))
      · exact .fTuple (s _ _ h1)
      · exact .kTuple h1 h3
  | ow h hs => simp [tyC] at e; subst e; exact .base (.lst h)
  | _ => simp [tyC] at e
@[simp] def xIsi (T : XE) (t : String) : XE := fun γ K => T γ fun c => ∃ s b, tyC c = some s ∧ kitB s t = some b ∧ K (.im (.bool b))
theorem de_isi {X : Cx} {B : Bs} {a : Expr} {Ta : XE} {ty : String} {pos p p2 : Pos} (hg : Gl X "isinstance") (hm : X.mg "isinstance" = none) (hg2 : Gl X ty) (hm2 : X.mg ty = none) (hv2 : bootBuiltins (Str.ofString ty) = some (.type ty)) (hn2 : Str.ofString ty ≠ "__name__") (hd2 : (Str.ofString ty == ("__debug__" : Str)) = false)
    (ha : DR X B a Ta) (hs1 : starEach [a, .Name (Str.ofString ty) p2] X.env = (false, eval a X.env) :: starEach [.Name (Str.ofString ty) p2] X.env := by rfl) (hs2 : starEach [.Name (Str.ofString ty) p2] X.env = (false, eval (.Name (Str.ofString ty) p2) X.env) :: starEach [] X.env := by rfl)
    (hpl : (backTo pos (starEach [.Name (Str.ofString ty) p2] X.env)).any (·.1) = false := by rfl) : DE X B (.Call (.Name "isinstance" p) [a, .Name (Str.ofString ty) p2] [] pos) (xIsi Ta ty) := by
  have hT : PE X (.Name (Str.ofString ty) p2) (tC (.ty ty)) := pe_bltn hg2 hm2 hv2 rfl hn2 hd2
  refine pe_imp (pe_callB call_isi hg hm (by decide +kernel) (pa_cons ha (pa_cons hT pa_nil hs2) hs1) (by decide) (by decide) hs1 hpl) fun σ H Q ⟨γ, F, Q', R, hT, k⟩ _ => ⟨γ, F, _, R, hT, fun v F1 H1 c f g1 sz cr fr ⟨s, b, e1, e2, q⟩ => ?_⟩
  exact ⟨v, .ty ty, .type s, .type ty, b, rfl, .ty ty, tyC_ok g1.sub cr e1, kit_ty e2, fun sz' => k (.bl b) F1 H1 _ [] g1 sz' (.im (.bl b)) List.nodup_nil (fun _ m => nomatch m) q⟩
end DL
set_option maxHeartbeats 1000000
namespace DL
open PySem PySem.Spec PyProof.Rows L2
def SqB (b : Bool) (K : PySem.W.Frag) (H : Hp) (a : Addr) (xs : List V) : Prop := if b = true then SqT K H a xs else SqL K H a xs
def SeqB (b : Bool) (h : Heap) (a : Addr) (items : Array Value) : Prop := if b = true then h.IsTuple a items else h.IsList a items
def IterB (b : Bool) (h : Heap) (it a : Addr) (i : Nat) : Prop := if b = true then h.IsTupleIter it a i else h.IsListIter it a i
def iterO (b : Bool) (a : Addr) : Obj := if b = true then { cls := .type "tuple_iterator", data := .fields #[.ref a, .int 0 0] } else { cls := .type "list_iterator", data := .fields #[.ref a, .int 0 0] }
theorem SqB.mono {b : Bool} {K : PySem.W.Frag} {H H' : Hp} {a : Addr} {xs : List V} (e : Same H H') (h : SqB b K H a xs) : SqB b K H' a xs := by
  cases b with
  | true => exact SqT.mono e h
  | false => exact e.seq h
theorem inv_seqB {b : Bool} {X : Cx} {pins : List (Addr × Obj)} {σ : L2.St} {H : Hp} {s : Shared} {a : Addr} {xs : List V} (I : Inv X pins σ H s) (h : SqB b X.K H a xs) : ∃ its : List Value, Vals xs its ∧ SeqB b s.heap a its.toArray ∧ a < s.heap.objs.size := by
  cases b with
  | true =>
    obtain ⟨its, r, p, _⟩ := I.tuple h
    exact ⟨its, r, p, p.lt⟩
  | false =>
    obtain ⟨its, r, p, _⟩ := I.list h
    exact ⟨its, r, p.isList, p.lt⟩
theorem inv_injB {b : Bool} {X : Cx} {pins : List (Addr × Obj)} {σ : L2.St} {H : Hp} {s : Shared} {a : Addr} {xs ys : List V} (I : Inv X pins σ H s) (h : SqB b X.K H a xs) (h' : SqB b X.K H a ys) : xs = ys := by
  cases b with
  | true => exact I.tuple_inj h h'
  | false => exact I.list_inj h h'
theorem draws_B {prog : Program} {w : World} {A : Around} (hh : A.handled = none) (b : Bool) (it l : Addr) (hne : l ≠ it) (items : Array Value) :
    Draws prog w A it [it, l] items.size (fun i v => items[i]? = some v) (fun i h => IterB b h it l i ∧ SeqB b h l items) := by
  cases b with
  | true => exact Draws.tuple hh it l hne items
  | false => exact Draws.list hh it l hne items
theorem begins_B (b : Bool) (a : Addr) (items : Array Value) : Begins (.ref a) (iterO b a) fun h => SeqB b h a items := by
  cases b with
  | true => exact begins_tuple a items
  | false => exact begins_list a items
theorem iterB_mk {b : Bool} {h : Heap} {it a : Addr} (e : h.get? it = some (iterO b a)) : IterB b h it a 0 := by
  cases b with
  | true => exact ⟨_, e, rfl, rfl⟩
  | false => exact ⟨_, e, rfl, rfl⟩
theorem IterB.obj {b : Bool} {h : Heap} {it a : Addr} {i : Nat} (st : IterB b h it a i) : ∃ o, h.get? it = some o ∧ ∀ v, o.data ≠ .cell v := by
  cases b with
  | true =>
    obtain ⟨o, e, c, d⟩ := st
    exact ⟨o, e, fun v z => by rw [d] at z; cases z⟩
  | false =>
    obtain ⟨o, e, c, d⟩ := st
    exact ⟨o, e, fun v z => by rw [d] at z; cases z⟩
theorem IterB.keep {b : Bool} {h h' : Heap} {it a : Addr} {i : Nat} (st : IterB b h it a i) (k : ∀ o, h.get? it = some o → h'.get? it = some o) : IterB b h' it a i := by
  cases b with
  | true => exact Heap.IsTupleIter.at st k
  | false => exact Heap.IsListIter.at st k
def IteB (b : Bool) (K : PySem.W.Frag) (a : Addr) : It :=
  ⟨fun i H => ∃ (xs : List V) (x : V), SqB b K H a xs ∧ xs[i]? = some x, fun i H v H' => ∃ T x, v = .ref T ∧ H T = none ∧ H' = upd H T (.tup [.int (i : Nat), x]) ∧ ∀ xs, SqB b K H a xs → xs[i]? = some x, fun i H => ∃ xs : List V, SqB b K H a xs ∧ xs.length = i⟩
theorem turn_enumB {P : Program} {w : World} {K : PySem.W.Frag} {elts : List Expr} {kk : Nat} {tpos : Pos} (b : Bool) (a e it : Addr) (hae : a ≠ e) (hai : a ≠ it) :
    Turn P w K (.Tuple elts kk tpos) (IteB b K a) [e, it] e (fun i h => (∃ old, IsEnum h e it ((i : Nat) : Int) old) ∧ IterB b h it a i ∧ e ≠ it) where
  mem := by simp
  obj := fun i h st c hb => by
    obtain ⟨⟨old, he⟩, hi, _⟩ := st
    have e' : c = e ∨ c = it := by simpa using hb
    rcases e' with z | z
    · rw [z]; exact ⟨_, he, fun v q => nomatch q⟩
    · rw [z]; exact hi.obj
  keep := fun i h h' st k => let ⟨⟨old, he⟩, hi, hne⟩ := st; ⟨⟨old, k e (by simp) _ he⟩, hi.keep fun o q => k it (by simp) o q, hne⟩
  item := by
    intro X hP hw hK hc i pins s σ H E I hf st hg
    subst hP hw hK
    obtain ⟨⟨old, he⟩, hit, hne⟩ := st
    obtain ⟨xs, x, hq, hx⟩ := hg
    obtain ⟨its, rv, p, hal⟩ := inv_seqB I hq
    obtain ⟨u, hu, ru⟩ := rv.get hx
    have hel : e < s.heap.objs.size := Heap.lt_size he
    have hil : it < s.heap.objs.size := by obtain ⟨_, q, _⟩ := hit.obj; exact Heap.lt_size q
    have hii : i < its.toArray.size := by
      obtain ⟨z, _⟩ := List.getElem?_eq_some_iff.mp hu
      simpa using z
    refine wpAny_pyNext_enum_itemC (draws_B (show X.A.in1.handled = none from I.ok.hd hc) b it a hai its.toArray) he ⟨hit, p⟩ hii hne (by simp; exact ⟨hne, fun z => hae z.symm⟩) fun x' h' tk hpx ho hst' hT hsz hk => ?_
    have ex : x' = u := by
      have z : its.toArray[i]? = some u := by simpa using hu
      rw [z] at hpx
      exact (Option.some.inj hpx).symm
    subst ex
    refine ⟨_, rfl, wpAny_letOwnedTupleGo_enum (s := { s with heap := h', toks := tk + 1 }) ho fun h'' he' sb => ?_⟩
    have hT2 : h''.get? s.heap.objs.size = some { cls := .type "tuple", data := .seq #[.int i tk, x'] } := (sb.2 _ (Nat.ne_of_gt hel)).trans hT
    have new : ObjOk X.prog X.w (upd H s.heap.objs.size (.tup [.int (i : Nat), x])) h'' s.heap.objs.size (.tup [.int (i : Nat), x]) :=
      ⟨by show 2 ≤ sizeLine; decide, [.int i tk, x'], .cons ⟨_, rfl⟩ (.cons ru .nil), ⟨_, hT2, rfl, _, rfl⟩⟩
    have I1 : Inv X pins σ (upd H s.heap.objs.size (.tup [.int (i : Nat), x])) { s with heap := h'', toks := tk + 1 } :=
      I.turnedNew (ch := [e, it]) (fun c ob hb q => (sb.2 c (fun z => hb (by simp [z]))).trans (hk c ob (fun z => hb (by simp [z])) (fun z => hb (by simp [z])) q)) hf (Nat.le_refl _) new
    refine ⟨.ref s.heap.objs.size, _, I1, rfl, ⟨_, x, rfl, I.hok.fresh (Nat.le_refl _), rfl, fun ys hy => by rw [inv_injB I hy hq]; exact hx⟩, ⟨⟨x', ?_⟩, hst'.1.keep fun o q => (sb.2 it (Ne.symm hne)).trans q, hne⟩, fun c hb => ?_⟩
    · have e1 : ((i + 1 : Nat) : Int) = (i : Int) + 1 := by omega
      rw [e1]; exact he'
    · have hb' : c < s.heap.objs.size := by
        have e' : c = e ∨ c = it := by simpa using hb
        rcases e' with z | z
        · rw [z]; exact hel
        · rw [z]; exact hil
      rw [upd_ne (Nat.ne_of_lt hb')]
      exact (hf c hb).1
  done := by
    intro X hP hw hK hc i pins s σ H E I hf st hg
    subst hP hw hK
    obtain ⟨⟨old, he⟩, hit, hne⟩ := st
    obtain ⟨xs, hq, hx⟩ := hg
    obtain ⟨its, rv, p, hal⟩ := inv_seqB I hq
    have hl := rv.length
    have hei : i = its.toArray.size := by simp; omega
    subst hei
    have W := WalksT.enumFrom (prog := X.prog) (w := X.w) 0 (draws_B (show X.A.in1.handled = none from I.ok.hd hc) b it a hai its.toArray) e hne (by simp; exact ⟨hne, fun z => hae z.symm⟩) (by simp)
    refine W.done s _ _ ⟨⟨old, ?_⟩, ⟨hit, p⟩⟩ fun h' tk hk => ⟨rfl, ?_⟩
    · rw [Int.zero_add]; exact he
    · exact I.turnedL (ch := [e, it]) (fun c o hb q => hk c o hb q) hf
  self := fun A i s Q E st h => let ⟨⟨_, he⟩, _⟩ := st; wpAny_pyIter_enum he h
set_option maxHeartbeats 1000000 in
theorem meets_enumerate_new1 {v : Value} {o : Obj} {H : Heap → Prop} (B : Begins v o H) :
    Meets (Builtin.«enumerate.__new__» ⟨[.type "enumerate", v], []⟩) (fun _ R s => H s.heap ∧
      R (.ok (.ret (.ref (s.heap.push o).objs.size))) { s with heap := (s.heap.push o).push { cls := .type "enumerate", data := .fields #[.none, .bool false, .ref s.heap.objs.size, rawInt 0, .none, .none] } }) :=
  .of_wp fun prog w A R s h => by
    obtain ⟨hp, g, d, tk, os⟩ := s; obtain ⟨h1, h⟩ := h
    have hsub := sub_enumerate
    have q1 : ∀ {A' : Around} {E : Value → Shared → Prop} {Q : Value → Shared → Prop}, Q (.ref hp.objs.size) ⟨hp.push o, g, d, tk, os⟩ → wpAny (model prog w) A' (pyIter v) Q E ⟨hp, g, d, tk, os⟩ :=
      fun q => B.iter prog w _ _ ⟨hp, g, d, tk, os⟩ _ h1 q
    wp_walk using q1
    refine wpAny_stack_any fun st => wpAny_pure ?_
    split
    · rename_i c _ _ _ _ _
      cases (c == Value.type "enumerate")
      · wp_walk using q1
        exact ⟨_, rfl, h⟩
      · wp_walk using q1
        exact ⟨_, rfl, h⟩
    · wp_walk using q1
      exact ⟨_, rfl, h⟩
theorem enum_begins1 {prog : Program} {w : World} {A : Around} {E : Value → Shared → Prop} {s : Shared} {v : Value} {o : Obj} {H : Heap → Prop} {Q : Value → Shared → Prop} (B : Begins v o H) (h1 : H s.heap)
    (h : ∀ h', IsEnum h' (s.heap.objs.size + 1) s.heap.objs.size 0 .none → h'.get? s.heap.objs.size = some o → h'.objs.size = s.heap.objs.size + 2 →
      (∀ b o, s.heap.get? b = some o → h'.get? b = some o) → Q (.ref (s.heap.objs.size + 1)) { s with heap := h' }) :
    wpAny (model prog w) A (call (.type "enumerate") [v]) Q E s := by
  refine callType_new F.called_enumerate (by decide) (F.typeCall_enumerate_1 _) (F.newCall_enumerate_1 _) (fun obj => F.args_object_init_2 obj _) F.entry_enumerate_new
    (meets_enumerate_new1 B) ⟨h1, ?_⟩
  have hz : (s.heap.push o).objs.size = s.heap.objs.size + 1 := Heap.size_push ..
  show _ ∧ _
  rw [hz]
  have he : IsEnum ((s.heap.push o).push { cls := .type "enumerate", data := .fields #[.none, .bool false, .ref s.heap.objs.size, rawInt 0, .none, .none] }) (s.heap.objs.size + 1) s.heap.objs.size 0 .none := by
    have := Heap.get?_push_size (s.heap.push o) (o := { cls := .type "enumerate", data := .fields #[.none, .bool false, .ref s.heap.objs.size, rawInt 0, .none, .none] }) rfl
    rw [hz] at this; exact this
  refine ⟨⟨_, he, rfl⟩, h _ he (Heap.get?_push_of_some _ (Heap.get?_push_size _ B.free)) (by rw [Heap.size_push, hz]) fun b o x => Heap.get?_push_of_some _ (Heap.get?_push_of_some _ x)⟩
def iEnumB (K : PySem.W.Frag) (ta : TA) : TI := fun σ H R => ta σ H fun vs H1 => ∃ b a xs, vs = [.ref a] ∧ SqB b K H1 a xs ∧ R (IteB b K a) H1
theorem pi_enumB {X : Cx} {e : Expr} {ta : TA} {p pos tpos : Pos} {elts : List Expr} {kk : Nat} (hg : Gl X "enumerate") (hm : X.mg "enumerate" = none) (ha : PA X [e] ta) (hs : starEach [e] X.env = [(false, eval e X.env)] := by rfl) :
    PI X (.Tuple elts kk tpos) (.Call (.Name "enumerate" p) [e] [] pos) (iEnumB X.K ta) := by
  refine ⟨fun pins s σ H R I h => ?_⟩
  refine Call_ (ld_blt I hg hm boot_enumerate (PyProof.Rows.callWith_type1 (thn (ha.run pos pins s σ H _ I h) fun us s1 ⟨vs, H1, I1, r1, q1⟩ => ?_) hs rfl))
  obtain ⟨b, a, xs, ex, hq, q⟩ := q1
  subst ex
  cases r1 with
  | cons r rr =>
    cases rr
    cases r
    obtain ⟨its, rv, p', hal⟩ := inv_seqB I1 hq
    refine enum_begins1 (begins_B b a its.toArray) p' fun h' he hit hsz hk => wpAny_pyIter_enum he ?_
    have I2 : Inv X pins σ H1 { s1 with heap := h' } := I1.kept (t' := s1.toks) hk
    refine ⟨s1.heap.objs.size + 1, [s1.heap.objs.size + 1, s1.heap.objs.size], _, _, H1, rfl, I2, turn_enumB b a (s1.heap.objs.size + 1) s1.heap.objs.size (Nat.ne_of_lt (Nat.lt_succ_of_lt hal)) (Nat.ne_of_lt hal), ⟨⟨.none, he⟩, iterB_mk hit, Nat.succ_ne_self _⟩, fun b hb => ?_, q⟩
    have e' : b = s1.heap.objs.size + 1 ∨ b = s1.heap.objs.size := by simpa using hb
    have hle : s1.heap.objs.size ≤ b := by
      rcases e' with z | z
      · rw [z]; exact Nat.le_add_right _ _
      · rw [z]; exact Nat.le_refl _
    exact I1.fpOk hle (I1.hok.fresh hle)
def ItzB (b1 b2 : Bool) (K : PySem.W.Frag) (a c : Addr) : It :=
  ⟨fun i H => ∃ (xs ys : List V) (x y : V), SqB b1 K H a xs ∧ SqB b2 K H c ys ∧ xs[i]? = some x ∧ ys[i]? = some y,
    fun i H v H' => ∃ T x y, v = .ref T ∧ H T = none ∧ H' = upd H T (.tup [x, y]) ∧ (∀ xs, SqB b1 K H a xs → xs[i]? = some x) ∧ ∀ ys, SqB b2 K H c ys → ys[i]? = some y,
    fun i H => ∃ xs ys : List V, SqB b1 K H a xs ∧ SqB b2 K H c ys ∧ i ≤ xs.length ∧ i ≤ ys.length ∧ (i = xs.length ∨ i = ys.length)⟩
theorem turn_zipB {P : Program} {w : World} {K : PySem.W.Frag} {elts : List Expr} {kk : Nat} {tpos : Pos} (b1 b2 : Bool) {a c z TI TO i1 i2 : Addr} (D : ZipSep2 z TI TO i1 i2 [i1, a] [i2, c]) (ha1 : a ≠ i1) (hc2 : c ≠ i2) :
    Turn P w K (.Tuple elts kk tpos) (ItzB b1 b2 K a c) [z, TI, TO, i1, i2] z (fun i h => IsZip h z TI TO .none ∧ IsTupOf2 h TI (.ref i1) (.ref i2) ∧ (∃ x y, IsTupOf2 h TO x y) ∧ IterB b1 h i1 a i ∧ IterB b2 h i2 c i) where
  mem := by simp
  obj := fun i h st d hc => by
    obtain ⟨hz, hTI, ⟨x, y, hTO⟩, h1, h2⟩ := st
    have e' : d = z ∨ d = TI ∨ d = TO ∨ d = i1 ∨ d = i2 := by simpa using hc
    rcases e' with q | q | q | q | q
    · rw [q]; exact ⟨_, hz, fun v q => nomatch q⟩
    · rw [q]; exact ⟨_, hTI, fun v q => nomatch q⟩
    · rw [q]; exact ⟨_, hTO, fun v q => nomatch q⟩
    · rw [q]; exact h1.obj
    · rw [q]; exact h2.obj
  keep := fun i h h' st k => by
    obtain ⟨hz, hTI, ⟨x, y, hTO⟩, h1, h2⟩ := st
    exact ⟨k z (by simp) _ hz, k TI (by simp) _ hTI, ⟨x, y, k TO (by simp) _ hTO⟩, h1.keep fun o q => k i1 (by simp) o q, h2.keep fun o q => k i2 (by simp) o q⟩
  item := by
    intro X hP hw hK hc i pins s σ H E I hf st hg
    subst hP hw hK
    obtain ⟨hz, hTI, ⟨x0, y0, hTO⟩, h1, h2⟩ := st
    obtain ⟨xs, ys, x, y, hqx, hqy, hx, hy⟩ := hg
    obtain ⟨its, rv, p, _⟩ := inv_seqB I hqx
    obtain ⟨its2, rv2, p2, _⟩ := inv_seqB I hqy
    obtain ⟨u, hu, ru⟩ := rv.get hx
    obtain ⟨u2, hu2, ru2⟩ := rv2.get hy
    have hzl : z < s.heap.objs.size := Heap.lt_size hz
    have l1 : i < its.toArray.size := by
      obtain ⟨z, _⟩ := List.getElem?_eq_some_iff.mp hu
      simpa using z
    have l2 : i < its2.toArray.size := by
      obtain ⟨z, _⟩ := List.getElem?_eq_some_iff.mp hu2
      simpa using z
    refine wpAny_pyNext_zipD2_item D (draws_B (show X.A.in1.handled = none from I.ok.hd hc) b1 i1 a ha1 its.toArray) (draws_B (show X.A.in1.handled = none from I.ok.hd hc) b2 i2 c hc2 its2.toArray) hz hTI hTO ⟨h1, p⟩ ⟨h2, p2⟩ l1 l2 fun v1 v2 h' tk e1 e2 z' TO' h1' h2' hT hsz hk => ?_
    have ev1 : v1 = u := by
      have z : its.toArray[i]? = some u := by simpa using hu
      rw [z] at e1
      exact (Option.some.inj e1).symm
    have ev2 : v2 = u2 := by
      have z : its2.toArray[i]? = some u2 := by simpa using hu2
      rw [z] at e2
      exact (Option.some.inj e2).symm
    subst ev1 ev2
    refine ⟨_, rfl, wpAny_letOwnedTupleGo_zip (s := { s with heap := h', toks := tk }) z' fun h'' z'' sb => ?_⟩
    have hT2 : h''.get? s.heap.objs.size = some { cls := .type "tuple", data := .seq #[v1, v2] } := (sb.2 _ (Nat.ne_of_gt hzl)).trans hT
    have new : ObjOk X.prog X.w (upd H s.heap.objs.size (.tup [x, y])) h'' s.heap.objs.size (.tup [x, y]) :=
      ⟨by show 2 ≤ sizeLine; decide, [v1, v2], .cons ru (.cons ru2 .nil), ⟨_, hT2, rfl, _, rfl⟩⟩
    have I1 : Inv X pins σ (upd H s.heap.objs.size (.tup [x, y])) { s with heap := h'', toks := tk } :=
      I.turnedNew (t' := tk) (ch := [z, TI, TO, i1, i2]) (fun d o hb q => (sb.2 d (fun q' => hb (by simp [q']))).trans (hk d o (fun q' => hb (by simp [q'])) (fun q' => hb (by simp [q'])) (fun q' => hb (by simp [q'])) (fun q' => hb (by simp [q'])) q)) hf (Nat.le_refl _) new
    refine ⟨.ref s.heap.objs.size, _, I1, rfl, ⟨_, x, y, rfl, I.hok.fresh (Nat.le_refl _), rfl, fun l hl => by rw [inv_injB I hl hqx]; exact hx, fun l hl => by rw [inv_injB I hl hqy]; exact hy⟩, ⟨z'', ?_, ⟨v1, v2, ?_⟩, ?_, ?_⟩, fun d hcm => ?_⟩
    · exact (sb.2 _ D.TIz).trans (hk _ _ D.TIz D.TITO D.TIi1 D.TIi2 hTI)
    · exact (sb.2 _ D.TOz).trans TO'
    · exact h1'.1.keep fun o q => (sb.2 _ (Ne.symm D.zi1)).trans q
    · exact h2'.1.keep fun o q => (sb.2 _ (Ne.symm D.zi2)).trans q
    · have hlt : d < s.heap.objs.size := by
        have e' : d = z ∨ d = TI ∨ d = TO ∨ d = i1 ∨ d = i2 := by simpa using hcm
        rcases e' with q | q | q | q | q
        · rw [q]; exact hzl
        · rw [q]; exact Heap.lt_size hTI
        · rw [q]; exact Heap.lt_size hTO
        · rw [q]; obtain ⟨_, e1, _⟩ := h1.obj; exact Heap.lt_size e1
        · rw [q]; obtain ⟨_, e2, _⟩ := h2.obj; exact Heap.lt_size e2
      rw [upd_ne (Nat.ne_of_lt hlt)]
      exact (hf d hcm).1
  done := by
    intro X hP hw hK hc i pins s σ H E I hf st hg
    subst hP hw hK
    obtain ⟨hz, hTI, ⟨x0, y0, hTO⟩, h1, h2⟩ := st
    obtain ⟨xs, ys, hqx, hqy, g1, g2, hend⟩ := hg
    obtain ⟨its, rv, p, _⟩ := inv_seqB I hqx
    obtain ⟨its2, rv2, p2, _⟩ := inv_seqB I hqy
    have l1 := rv.length
    have l2 := rv2.length
    exact wpAny_pyNext_zipD2_end D (draws_B (show X.A.in1.handled = none from I.ok.hd hc) b1 i1 a ha1 its.toArray) (draws_B (show X.A.in1.handled = none from I.ok.hd hc) b2 i2 c hc2 its2.toArray) hz hTI hTO ⟨h1, p⟩ ⟨h2, p2⟩ (by simp; omega) (by simp; omega) (by simp; omega) fun h' tk hk => ⟨rfl, I.turnedL (t' := tk) (ch := [z, TI, TO, i1, i2]) (fun d o hb q =>
      hk d o (fun q' => hb (by simp [q'])) (fun q' => hb (by simp [q'])) (fun q' => hb (by simp [q'])) (fun q' => hb (by simp [q'])) q) hf⟩
  self := fun A i s Q E st h => wpAny_pyIter_zip st.1 h
def iZipB (K : PySem.W.Frag) (ta : TA) : TI := fun σ H R => ta σ H fun vs H1 => ∃ b1 b2 a c xs ys, vs = [.ref a, .ref c] ∧ SqB b1 K H1 a xs ∧ SqB b2 K H1 c ys ∧ R (ItzB b1 b2 K a c) H1
theorem pi_zipB {X : Cx} {e e2 : Expr} {ta : TA} {p pos tpos : Pos} {elts : List Expr} {kk : Nat} (hg : Gl X "zip") (hm : X.mg "zip" = none) (ha : PA X [e, e2] ta)
    (hs : starEach [e, e2] X.env = (false, eval e X.env) :: starEach [e2] X.env := by rfl) (hpl : (backTo pos (starEach [e2] X.env)).any (·.1) = false := by rfl) :
    PI X (.Tuple elts kk tpos) (.Call (.Name "zip" p) [e, e2] [] pos) (iZipB X.K ta) := by
  refine ⟨fun pins s σ H R I h => ?_⟩
  refine Call_ (ld_blt I hg hm PyProof.Rows.boot_zip (PyProof.Rows.callWith_type1 (thn (ha.run pos pins s σ H _ I h) fun us s1 ⟨vs, H1, I1, r1, q1⟩ => ?_) hs hpl))
  obtain ⟨b1, b2, a, c, xs, ys, ex, hqx, hqy, q⟩ := q1
  subst ex
  cases r1 with
  | cons r rr =>
    cases rr with
    | cons r' rr =>
      cases rr
      cases r
      cases r'
      have fresh5 : ∀ c, c ∈ [s1.heap.objs.size + 4, s1.heap.objs.size + 2, s1.heap.objs.size + 3, s1.heap.objs.size, s1.heap.objs.size + 1] → FpOk X pins H1 c := fun c hcm => by
        have e' : c = s1.heap.objs.size + 4 ∨ c = s1.heap.objs.size + 2 ∨ c = s1.heap.objs.size + 3 ∨ c = s1.heap.objs.size ∨ c = s1.heap.objs.size + 1 := by simpa using hcm
        have hle : s1.heap.objs.size ≤ c := by
          rcases e' with z | z | z | z | z
          · rw [z]; exact Nat.le_add_right _ _
          · rw [z]; exact Nat.le_add_right _ _
          · rw [z]; exact Nat.le_add_right _ _
          · rw [z]; exact Nat.le_refl _
          · rw [z]; exact Nat.le_add_right _ _
        exact I1.fpOk hle (I1.hok.fresh hle)
      obtain ⟨its, rv, p1, hal⟩ := inv_seqB I1 hqx
      obtain ⟨its2, rv2, p2, hcl⟩ := inv_seqB I1 hqy
      refine zip_begins2 (begins_B b1 a its.toArray) (begins_B b2 c its2.toArray) p1 p2 fun h' hz hTI hTO h1 h2 hsz hk => wpAny_pyIter_zip hz ?_
      have I2 : Inv X pins σ H1 { s1 with heap := h' } := I1.kept (t' := s1.toks) hk
      exact ⟨s1.heap.objs.size + 4, [s1.heap.objs.size + 4, s1.heap.objs.size + 2, s1.heap.objs.size + 3, s1.heap.objs.size, s1.heap.objs.size + 1], _, _, H1, rfl, I2,
        turn_zipB b1 b2 (zip_sep2 (N := s1.heap.objs.size) (fp1 := [a]) (fp2 := [c]) (by simpa using hal) (by simpa using hcl)) (Nat.ne_of_lt hal) (Nat.ne_of_lt (Nat.lt_succ_of_lt hcl)), ⟨hz, hTI, ⟨_, _, hTO⟩, iterB_mk h1, iterB_mk h2⟩, fresh5, q⟩
def iSeqB (K : PySem.W.Frag) (tl : TE) : TI := fun σ H R => tl σ H fun x H1 => ∃ a, x = .ref a ∧ (((∃ xs, SqL K H1 a xs) ∧ R (Itl K a) H1) ∨ ((∃ xs, SqT K H1 a xs) ∧ R (Itt K a) H1))
theorem pi_seqB {X : Cx} {tg l : Expr} {tl : TE} (hl : PE X l tl) : PI X tg l (iSeqB X.K tl) := by
  refine ⟨fun pins s σ H R I h => ?_⟩
  refine thn (hl.run pins s σ H _ I h) fun v s1 ⟨x, H1, I1, r1, q1⟩ => ?_
  obtain ⟨a, e, q1⟩ := q1
  subst e
  cases r1
  have fr : ∀ b ∈ [s1.heap.objs.size], FpOk X pins H1 b := fun b hb => by
    have e : b = s1.heap.objs.size := by simpa using hb
    subst e
    exact I1.fpOk (Nat.le_refl _) (I1.hok.fresh (Nat.le_refl _))
  rcases q1 with ⟨⟨xs, hq⟩, q⟩ | ⟨⟨xs, hq⟩, q⟩
  · obtain ⟨its, rv, p, hz⟩ := I1.list hq
    refine wpAny_pyIter_list p.isList ?_
    exact ⟨s1.heap.objs.size, [s1.heap.objs.size], _, _, H1, rfl, I1.kept (t' := s1.toks) fun b o e => Heap.get?_push_of_some _ e, turn_list a _, ⟨_, Heap.get?_push_size _ rfl, rfl, rfl⟩, fr, q⟩
  · obtain ⟨its, rv, p, hz⟩ := I1.tuple hq
    refine wpAny_pyIter_tuple (show s1.heap.IsTuple a its.toArray from p) ?_
    exact ⟨s1.heap.objs.size, [s1.heap.objs.size], _, _, H1, rfl, I1.kept (t' := s1.toks) fun b o e => Heap.get?_push_of_some _ e, turn_tuple a _, ⟨_, Heap.get?_push_size _ rfl, rfl, rfl⟩, fr, q⟩
end DL
set_option maxHeartbeats 1000000
namespace DL
open PySem PySem.Spec PyProof.Rows L2
abbrev XG := D → List Cell → (List Cell → Prop) → Prop
abbrev XGs := List D → List Cell → (List Cell → Prop) → Prop
/-- the slots' objects are among the earlier ones -/
def SubS (K : PySem.W.Frag) (B : Bs) (F H : Hp) (γ : List Cell) (σ : L2.St) (γ' : List Cell) (σ' : L2.St) : Prop := ∀ fp, SlotsR K B.dd F H σ γ fp → fp.Nodup → ∃ fp', SlotsR K B.dd F H σ' γ' fp' ∧ fp'.Nodup ∧ ∀ a ∈ fp', a ∈ fp
theorem SubS.refl {K : PySem.W.Frag} {B : Bs} {F H : Hp} {γ : List Cell} {σ : L2.St} : SubS K B F H γ σ γ σ := fun fp h n => ⟨fp, h, n, fun _ m => m⟩
theorem SubS.trans {K : PySem.W.Frag} {B : Bs} {F H : Hp} {γ γ1 γ2 : List Cell} {σ σ1 σ2 : L2.St} (a : SubS K B F H γ σ γ1 σ1) (b : SubS K B F H γ1 σ1 γ2 σ2) : SubS K B F H γ σ γ2 σ2 := fun fp h n => by
  obtain ⟨fp1, h1, n1, s1⟩ := a fp h n
  obtain ⟨fp2, h2, n2, s2⟩ := b fp1 h1 n1
  exact ⟨fp2, h2, n2, fun a m => s1 a (s2 a m)⟩
theorem SubS.setD {K : PySem.W.Frag} {B : Bs} {F H : Hp} {γ : List Cell} {σ : L2.St} {v : V} {d : D} (h : Dp K F v d) (i : Nat) : SubS K B F H γ σ (γ.set i (.im d)) (σ.set i (some v)) := fun fp hs n => by
  obtain ⟨fp', q1, q2, q3⟩ := hs.set (CR.im h) i
  exact ⟨fp', q1, q3 (by simpa using n), fun a m => (q2 a m).elim (fun z => nomatch z) id⟩
def liftG (K : PySem.W.Frag) (B : Bs) (sl : List Nat) (T : XG) : TG := fun v σ H Q => ∃ γ F d Q', Rel K B γ F H σ ∧ Dp K F v d ∧ T d γ Q' ∧
  ∀ γ' σ', Rel K B γ' F H σ' → (∀ i, i ∉ sl → σ'[i]? = σ[i]?) → σ'.length = σ.length → SubS K B F H γ σ γ' σ' → Q' γ' → Q σ' H
def liftGs (K : PySem.W.Frag) (B : Bs) (sl : List Nat) (T : XGs) : TGs := fun vs σ H Q => ∃ γ F ds Q', Rel K B γ F H σ ∧ DpAll K F vs ds ∧ T ds γ Q' ∧
  ∀ γ' σ', Rel K B γ' F H σ' → (∀ i, i ∉ sl → σ'[i]? = σ[i]?) → σ'.length = σ.length → SubS K B F H γ σ γ' σ' → Q' γ' → Q σ' H
def DG (X : Cx) (B : Bs) (tg : Expr) (sl : List Nat) (T : XG) : Prop := PG X tg (liftG X.K B sl T)
def DGs (X : Cx) (B : Bs) (tg : List Expr) (sl : List Nat) (T : XGs) : Prop := PGs X tg (liftGs X.K B sl T)
theorem pg_imp {X : Cx} {e : Expr} {t t' : TG} (h : PG X e t) (k : ∀ v σ H Q, t' v σ H Q → t v σ H Q) : PG X e t' := ⟨fun pins s σ H v u Q I r h' => h.run pins s σ H v u _ I r (k _ _ _ _ h')⟩
theorem pgs_imp {X : Cx} {e : List Expr} {t t' : TGs} (h : PGs X e t) (k : ∀ v σ H Q, t' v σ H Q → t v σ H Q) : PGs X e t' := ⟨fun pins s σ H v u Q I r h' => h.run pins s σ H v u _ I r (k _ _ _ _ h')⟩
@[simp] def gNm (i : Nat) : XG := fun d γ K => K (γ.set i (.im d))
@[simp] def gTp (n : Nat) (T : XGs) : XG := fun d γ K => ∃ ds, d = .tuple ds ∧ ds.length = n ∧ T ds γ K
@[simp] def gN0 : XGs := fun ds γ K => ds = [] ∧ K γ
@[simp] def gC (T : XG) (U : XGs) : XGs := fun ds γ K => ∃ d r, ds = d :: r ∧ T d γ fun γ' => U r γ' K
section
variable {X : Cx} {B : Bs} {pos : Pos}
theorem dg_name {i : Nat} {x : Str} (hN : X.N.Nodup) (hi : X.N[i]? = some x := by rfl) (hx : Loc X.env.scope x := by first | exact Or.inl rfl | exact Or.inr rfl) (hf : X.fn x = true ∨ X.env.scope.names.lookup x = some .local := by first | exact .inl rfl | exact .inr rfl) : DG X B (.Name x pos) [i] (gNm i) :=
  pg_imp (pg_name hN hi hx hf) fun v σ H Q ⟨γ, F, d, Q', R, h, q, k⟩ => k _ _ (R.setD h i) (fun j hj => by rw [List.getElem?_set_ne (by rintro rfl; exact hj (by simp))]) (by simp) (.setD h i) q
theorem dgs_nil : DGs X B [] [] gN0 := pgs_imp pgs_nil fun vs σ H Q ⟨γ, F, ds, Q', R, h, ⟨e, q⟩, k⟩ => by
  subst e
  cases h
  exact ⟨rfl, k γ σ R (fun _ _ => rfl) rfl .refl q⟩
theorem dgs_cons {e : Expr} {es : List Expr} {s1 s2 : List Nat} {T : XG} {U : XGs} (h1 : DG X B e s1 T) (h2 : DGs X B es s2 U)
    (hs : (assignEach (e :: es) X.env).map (·.2) = assign e X.env :: (assignEach es X.env).map (·.2) := by rfl) : DGs X B (e :: es) (s1 ++ s2) (gC T U) :=
  pgs_imp (pgs_cons h1 h2 hs) fun vs σ H Q ⟨γ, F, ds, Q', R, h, ⟨d, r, e1, q⟩, k⟩ => by
    subst e1
    cases h with
    | cons h hr =>
      refine ⟨_, _, rfl, γ, F, d, _, R, h, q, fun γ1 σ1 R1 k1 l1 s1 q1 => ⟨γ1, F, r, Q', R1, hr, q1, fun γ2 σ2 R2 k2 l2 s2 q2 => k γ2 σ2 R2 (fun i hi => ?_) (l2.trans l1) (s1.trans s2) q2⟩⟩
      rw [k2 i fun z => hi (List.mem_append_right _ z), k1 i fun z => hi (List.mem_append_left _ z)]
theorem dg_tup {es : List Expr} {k : Nat} {T : XGs} {n : Nat} {sl : List Nat} (hc : X.calm = true) (h : DGs X B es sl T)
    (hn : (assignEach es X.env).length = n := by rfl) (hst : (assignEach es X.env).findIdx? (·.1) = none := by rfl) : DG X B (.Tuple es k pos) sl (gTp n T) :=
  pg_imp (pg_tup hc h hn hst) fun v σ H Q ⟨γ, F, d, Q', R, h, ⟨ds, e, el, q⟩, kk⟩ => by
    subst e
    cases h with
    | tup h1 h2 => exact ⟨_, _, rfl, SqT.mono R.sub h1, by rw [DpAll.length h2]; exact el, γ, F, ds, Q', R, h2, q, kk⟩
end
/-- .. while expressions run -/
structure SrcB (K : PySem.W.Frag) (B : Bs) (J : It) (F0 H0 : Hp) (ds : List D) : Prop where
  go : ∀ i F H, Go B F0 H0 F H → i < ds.length → J.go i H
  stop : ∀ F H, Go B F0 H0 F H → J.stop ds.length H
  yld : ∀ i F H x H', Go B F0 H0 F H → i < ds.length → J.yld i H x H' → ∃ F' d, ds[i]? = some d ∧ Go B F H F' H' ∧ Dp K F' x d
  sz : ds.length ≤ sizeLine
/-- .. while statements run -/
structure SrcF (K : PySem.W.Frag) (B : Bs) (J : It) (F0 : Hp) (ds : List D) : Prop where
  go : ∀ i F H, Same F0 F → Same F H → i < ds.length → J.go i H
  stop : ∀ F H, Same F0 F → Same F H → J.stop ds.length H
  yld : ∀ i F H x H', Same F0 F → Same F H → DeckOk B H → i < ds.length → J.yld i H x H' → ∃ F' d, ds[i]? = some d ∧ Go B F H F' H' ∧ Dp K F' x d
  sz : ds.length ≤ sizeLine
theorem SrcF.toB {K : PySem.W.Frag} {B : Bs} {J : It} {F0 H0 : Hp} {ds : List D} (s : SrcF K B J F0 ds) : SrcB K B J F0 H0 ds :=
  ⟨fun i F H g hi => s.go i F H g.ff g.sub hi, fun F H g => s.stop F H g.ff g.sub, fun i F H x H' g hi y => s.yld i F H x H' g.ff g.sub g.dk hi y, s.sz⟩
abbrev XI := List Cell → (List D → Prop) → Prop
def liftIB (K : PySem.W.Frag) (B : Bs) (T : XI) : TI := fun σ H R => ∃ γ F Q', Rel K B γ F H σ ∧ T γ Q' ∧ ∀ J F' H' ds, Go B F H F' H' → SzH K H' → SrcB K B J F' H' ds → Q' ds → R J H'
def liftIF (K : PySem.W.Frag) (B : Bs) (T : XI) : TI := fun σ H R => ∃ γ F Q', Rel K B γ F H σ ∧ T γ Q' ∧ ∀ J F' H' ds, Go B F H F' H' → SzH K H' → SrcF K B J F' ds → Q' ds → R J H'
def DIB (X : Cx) (B : Bs) (tg it : Expr) (T : XI) : Prop := PI X tg it (liftIB X.K B T)
def DIF (X : Cx) (B : Bs) (tg it : Expr) (T : XI) : Prop := PI X tg it (liftIF X.K B T)
theorem pi_imp {X : Cx} {tg e : Expr} {t t' : TI} (h : PI X tg e t) (k : ∀ σ H R, t' σ H R → t σ H (fun J H' => SzH X.K H' → R J H')) : PI X tg e t' :=
  ⟨fun pins s σ H R I h' => thn (h.run pins s σ H _ I (k _ _ _ h')) fun v s1 h1 => thn h1 fun itv s2 ⟨it, fp, tn, J, H', e, I', T, st, fr, q⟩ => ⟨it, fp, tn, J, H', e, I', T, st, fr, q (inv_sz I')⟩⟩
section
variable {X : Cx} {B : Bs} {tg it e e2 : Expr} {T Ta : XE} {U : XA} {W : XI} {pos p tpos : Pos} {elts : List Expr} {kk : Nat}
theorem dib_of (h : DIF X B tg it W) : DIB X B tg it W := pi_imp h fun σ H R ⟨γ, F, Q', Rl, hT, k⟩ => ⟨γ, F, Q', Rl, hT, fun J F' H' ds g sz s q _ => k J F' H' ds g sz s.toB q⟩
/-- range -/
theorem src_range {K : PySem.W.Frag} {F0 : Hp} (lo : Int) (n : Nat) (hn : n ≤ sizeLine) : SrcF K B (Itr lo n) F0 ((List.range n).map fun i => .int (lo + (i : Nat))) where
  go := fun i F H _ _ hi => by simpa [Itr] using hi
  stop := fun F H _ _ => by simp [Itr]
  sz := by simpa using hn
  yld := fun i F H x H' _ s dk hi y => by
    obtain ⟨e, ex⟩ := y
    subst e ex
    have hi' : i < n := by simpa using hi
    exact ⟨F, .int (lo + i), by simp [hi'], Go.refl s dk, .int _⟩
@[simp] def xRange1 (U : XA) : XI := fun γ K => U γ fun cs => ∃ n : Int, cs = [.im (.int n)] ∧ -(2 ^ 62) ≤ n ∧ n ≤ 16777216 ∧ K ((List.range n.toNat).map fun i => .int (i : Nat))
@[simp] def xRange2 (U : XA) : XI := fun γ K => U γ fun cs => ∃ m n : Int, cs = [.im (.int m), .im (.int n)] ∧ (-8388608 ≤ m ∧ m ≤ 8388608 ∧ -8388608 ≤ n ∧ n ≤ 8388608) ∧ K ((List.range (n - m).toNat).map fun i => .int (m + (i : Nat)))
theorem dif_range1 (h : PI X tg it (iRng1 (liftB X.K B U))) : DIF X B tg it (xRange1 U) := pi_imp h fun σ H R ⟨γ, F, Q', Rl, hT, k⟩ => ⟨γ, F, _, Rl, hT, fun vs F1 H1 cs fp g crs fr ⟨n, e, h1, h2, q⟩ => by
  subst e
  obtain ⟨v, rfl, cr⟩ := crs_one crs
  rw [cr.int]
  refine ⟨n, rfl, h1, by omega, fun sz => k _ F1 H1 _ g sz (src_range 0 n.toNat (by rw [sizeLine_eq]; omega)) ?_⟩
  simpa using q⟩
theorem dif_range2 (h : PI X tg it (iRng2 (liftB X.K B U))) : DIF X B tg it (xRange2 U) := pi_imp h fun σ H R ⟨γ, F, Q', Rl, hT, k⟩ => ⟨γ, F, _, Rl, hT, fun vs F1 H1 cs fp g crs fr ⟨m, n, e, h1, q⟩ => by
  subst e
  obtain ⟨v, w, f1, f2, rfl, c1, c2⟩ := crs_two crs
  rw [c1.int, c2.int]
  exact ⟨m, n, rfl, by omega, fun sz => k _ F1 H1 _ g sz (src_range m (n - m).toNat (by rw [sizeLine_eq]; omega)) q⟩⟩
/-- a list or a tuple -/
@[simp] def xSeq (T : XE) : XI := fun γ K => T γ fun c => ∃ ds, seqF c = some ds ∧ K ds
theorem src_listF {K : PySem.W.Frag} {F0 : Hp} {a : Addr} {vs : List V} {ds : List D} (h : SqL K F0 a vs) (al : DpAll K F0 vs ds) (hz : vs.length ≤ sizeLine) : SrcF K B (Itl K a) F0 ds where
  sz := by rw [← DpAll.length al]; exact hz
  go := fun i F H s1 s2 hi => by
    obtain ⟨v, e, _⟩ := DpAll.get al (List.getElem?_eq_getElem hi)
    exact ⟨vs, v, (s1.trans s2).seq h, e⟩
  stop := fun F H s1 s2 => ⟨vs, (s1.trans s2).seq h, by rw [DpAll.length al]; exact Nat.le_refl _⟩
  yld := fun i F H x H' s1 s2 dk hi y => by
    obtain ⟨e, hy⟩ := y
    subst e
    obtain ⟨d, e1, e2⟩ := DpAll.getV al (hy vs ((s1.trans s2).seq h))
    exact ⟨F, d, e1, Go.refl s2 dk, Dp.mono s1 e2⟩
theorem src_tupF {K : PySem.W.Frag} {F0 : Hp} {a : Addr} {vs : List V} {ds : List D} (h : SqT K F0 a vs) (al : DpAll K F0 vs ds) (hz : vs.length ≤ sizeLine) : SrcF K B (Itt K a) F0 ds where
  sz := by rw [← DpAll.length al]; exact hz
  go := fun i F H s1 s2 hi => by
    obtain ⟨v, e, _⟩ := DpAll.get al (List.getElem?_eq_getElem hi)
    exact ⟨vs, v, SqT.mono (s1.trans s2) h, e⟩
  stop := fun F H s1 s2 => ⟨vs, SqT.mono (s1.trans s2) h, by rw [DpAll.length al]; exact Nat.le_refl _⟩
  yld := fun i F H x H' s1 s2 dk hi y => by
    obtain ⟨e, hy⟩ := y
    subst e
    obtain ⟨d, e1, e2⟩ := DpAll.getV al (hy vs (SqT.mono (s1.trans s2) h))
    exact ⟨F, d, e1, Go.refl s2 dk, Dp.mono s1 e2⟩
theorem src_listB {K : PySem.W.Frag} {F0 H0 : Hp} {a : Addr} {vs : List V} {ds : List D} (h : H0 a = some (.lst vs)) (hm : a ∉ B.ms) (al : DpAll K F0 vs ds) (hz : vs.length ≤ sizeLine) : SrcB K B (Itl K a) F0 H0 ds where
  sz := by rw [← DpAll.length al]; exact hz
  go := fun i F H g hi => by
    obtain ⟨v, e, _⟩ := DpAll.get al (List.getElem?_eq_getElem hi)
    exact ⟨vs, v, .inl (.inl (g.hh a _ hm h)), e⟩
  stop := fun F H g => ⟨vs, .inl (.inl (g.hh a _ hm h)), by rw [DpAll.length al]; exact Nat.le_refl _⟩
  yld := fun i F H x H' g hi y => by
    obtain ⟨e, hy⟩ := y
    subst e
    obtain ⟨d, e1, e2⟩ := DpAll.getV al (hy vs (.inl (.inl (g.hh a _ hm h))))
    exact ⟨F, d, e1, Go.refl g.sub g.dk, Dp.mono g.ff e2⟩
theorem dib_seq (h : DR X B e T) : DIB X B tg e (xSeq T) := pi_imp (pi_seqB h) fun σ H R ⟨γ, F, Q', Rl, hT, k⟩ => ⟨γ, F, _, Rl, hT, fun v F1 H1 c fp g sz cr fr ⟨ds, e, q⟩ => by
  rcases seqF_cases e with e | e
  · subst e
    obtain ⟨a, vs, rfl, t, al⟩ := cr.tup
    exact ⟨a, rfl, .inr ⟨⟨vs, SqT.mono g.sub t⟩, fun sz => k _ F1 H1 ds g sz (src_tupF t al (sz _ _ (.inr (SqT.mono g.sub t)))).toB q⟩⟩
  · obtain ⟨a, vs, rfl, t, al⟩ := cr.frl g.sub e
    refine ⟨a, rfl, .inl ⟨⟨vs, sq_of g.sub t⟩, fun sz => k _ F1 H1 ds g sz ?_ q⟩⟩
    rcases t with t | ⟨t, ef⟩
    · exact (src_listF t al (sz _ _ (.inl (g.sub.seq t)))).toB
    · exact src_listB t (fr a (by rw [ef]; simp)) al (sz _ _ (.inl (.inl (.inl t))))⟩
theorem dif_seq (h : DE X B e T) : DIF X B tg e (xSeq T) := pi_imp (pi_seqB h) fun σ H R ⟨γ, F, Q', Rl, hT, k⟩ => ⟨γ, F, _, Rl, hT, fun v F1 H1 c fp g sz cr nd fr ⟨ds, e, q⟩ => by
  rcases seqF_cases e with e | e
  · subst e
    obtain ⟨a, vs, rfl, t, al⟩ := cr.tup
    exact ⟨a, rfl, .inr ⟨⟨vs, SqT.mono g.sub t⟩, fun sz => k _ F1 H1 ds g sz (src_tupF t al (sz _ _ (.inr (SqT.mono g.sub t)))) q⟩⟩
  · obtain ⟨a, vs, rfl, t, al⟩ := cr.frl g.sub e
    refine ⟨a, rfl, .inl ⟨⟨vs, sq_of g.sub t⟩, fun sz => ?_⟩⟩
    rcases t with t | ⟨t, ef⟩
    · exact k _ F1 H1 ds g sz (src_listF t al (sz _ _ (.inl (g.sub.seq t)))) q
    · have g2 := g.addF fr
      refine k _ _ H1 ds g2 sz (src_listF (.inl (.inl ?_)) (DpAll.mono (addF_same fun a m => (fr a m).2) al) (sz _ _ (.inl (.inl (.inl t))))) q
      rw [addF_in (by rw [ef]; simp)]; exact t⟩
/-- enumerate, zip -/
def enumD (ds : List D) : List D := ds.zipIdx.map fun p => .tuple [.int (p.2 : Nat), p.1]
def zipD (ds es : List D) : List D := (ds.zip es).map fun p => .tuple [p.1, p.2]
theorem src_enumF {K : PySem.W.Frag} {F0 : Hp} {b : Bool} {a : Addr} {vs : List V} {ds : List D} (h : SqB b K F0 a vs) (al : DpAll K F0 vs ds) (hz : vs.length ≤ sizeLine) : SrcF K B (IteB b K a) F0 (enumD ds) where
  sz := by simpa [enumD, DpAll.length al] using hz
  go := fun i F H s1 s2 hi => by
    have hi' : i < ds.length := by simpa [enumD] using hi
    obtain ⟨v, e, _⟩ := DpAll.get al (List.getElem?_eq_getElem hi')
    exact ⟨vs, v, h.mono (s1.trans s2), e⟩
  stop := fun F H s1 s2 => ⟨vs, h.mono (s1.trans s2), by simp [enumD, DpAll.length al]⟩
  yld := fun i F H x H' s1 s2 dk hi y => by
    have hi' : i < ds.length := by simpa [enumD] using hi
    obtain ⟨T, z, e1, e2, e3, hy⟩ := y
    subst e1 e3
    obtain ⟨d, e4, e5⟩ := DpAll.getV al (hy vs (h.mono (s1.trans s2)))
    have g := Go.newF (B := B) (o := .tup [.int (i : Nat), z]) s2 dk e2
    refine ⟨_, .tuple [.int i, d], ?_, g, .tup (.inl (.inl upd_same)) (.cons (.int _) (.cons (Dp.mono (s1.trans g.ff) e5) .nil))⟩
    simp [enumD, e4]
theorem src_zipF {K : PySem.W.Frag} {F0 : Hp} {b c : Bool} {a a2 : Addr} {vs ws : List V} {ds es : List D} (h : SqB b K F0 a vs) (h2 : SqB c K F0 a2 ws) (al : DpAll K F0 vs ds) (hz : vs.length ≤ sizeLine) (al2 : DpAll K F0 ws es) : SrcF K B (ItzB b c K a a2) F0 (zipD ds es) where
  sz := by have := DpAll.length al; simp [zipD]; omega
  go := fun i F H s1 s2 hi => by
    have hi' : i < min ds.length es.length := by simpa [zipD] using hi
    obtain ⟨v, e, _⟩ := DpAll.get al (List.getElem?_eq_getElem (show i < ds.length by omega))
    obtain ⟨w, e', _⟩ := DpAll.get al2 (List.getElem?_eq_getElem (show i < es.length by omega))
    exact ⟨vs, ws, v, w, h.mono (s1.trans s2), h2.mono (s1.trans s2), e, e'⟩
  stop := fun F H s1 s2 => ⟨vs, ws, h.mono (s1.trans s2), h2.mono (s1.trans s2), by simp [zipD, DpAll.length al, DpAll.length al2]; omega, by simp [zipD, DpAll.length al, DpAll.length al2]; omega, by simp [zipD, DpAll.length al, DpAll.length al2]; omega⟩
  yld := fun i F H x H' s1 s2 dk hi y => by
    obtain ⟨T, z, z2, e1, e2, e3, hy, hy2⟩ := y
    subst e1 e3
    obtain ⟨d, e4, e5⟩ := DpAll.getV al (hy vs (h.mono (s1.trans s2)))
    obtain ⟨d2, e6, e7⟩ := DpAll.getV al2 (hy2 ws (h2.mono (s1.trans s2)))
    have g := Go.newF (B := B) (o := .tup [z, z2]) s2 dk e2
    refine ⟨_, .tuple [d, d2], ?_, g, .tup (.inl (.inl upd_same)) (.cons (Dp.mono (s1.trans g.ff) e5) (.cons (Dp.mono (s1.trans g.ff) e7) .nil))⟩
    simp [zipD]
    exact List.getElem?_zip_eq_some.mpr ⟨e4, e6⟩
theorem sqB_sz {K : PySem.W.Frag} {H : Hp} {b : Bool} {a : Addr} {vs : List V} (sz : SzH K H) (h : SqB b K H a vs) : vs.length ≤ sizeLine := by
  cases b with
  | true => exact sz a vs (.inr h)
  | false => exact sz a vs (.inl h)
/-- fresh parts are frozen first -/
theorem seqF_frozen {K : PySem.W.Frag} {F1 H1 : Hp} {v : V} {c : Cell} {fp : List Addr} {ds : List D} {da : Option Addr} (s : Same F1 H1) (fr : ∀ a ∈ fp, F1 a = none) (cr : CR K da F1 H1 v c fp) (e : seqF c = some ds) : ∃ b a vs, v = .ref a ∧ SqB b K (addF F1 H1 fp) a vs ∧ DpAll K (addF F1 H1 fp) vs ds := by
  have sm : Same F1 (addF F1 H1 fp) := addF_same fr
  rcases seqF_cases e with e | e
  · subst e
    obtain ⟨a, vs, rfl, t, al⟩ := cr.tup
    exact ⟨true, a, vs, rfl, SqT.mono sm t, DpAll.mono sm al⟩
  · obtain ⟨a, vs, rfl, t, al⟩ := cr.frl s e
    rcases t with t | ⟨t, ef⟩
    · exact ⟨false, a, vs, rfl, sm.seq t, DpAll.mono sm al⟩
    · refine ⟨false, a, vs, rfl, .inl (.inl ?_), DpAll.mono sm al⟩
      rw [addF_in (by rw [ef]; simp)]; exact t
@[simp] def xEnum (U : XA) : XI := fun γ K => U γ fun cs => ∃ c ds, cs = [c] ∧ seqF c = some ds ∧ K (enumD ds)
@[simp] def xZip (U : XA) : XI := fun γ K => U γ fun cs => ∃ c c2 ds es, cs = [c, c2] ∧ seqF c = some ds ∧ seqF c2 = some es ∧ K (zipD ds es)
theorem dif_enum (h : PI X (.Tuple elts kk tpos) it (iEnumB X.K (liftA X.K B U))) : DIF X B (.Tuple elts kk tpos) it (xEnum U) := pi_imp h fun σ H R ⟨γ, F, Q', Rl, hT, k⟩ => ⟨γ, F, _, Rl, hT, fun vs F1 H1 cs fp g crs nd fr ⟨c, ds, e, e2, q⟩ => by
  subst e
  obtain ⟨v, rfl, cr⟩ := crs_one crs
  have g2 := g.addF fr
  obtain ⟨b, a, vs, rfl, t, al⟩ := seqF_frozen g.sub (fun a m => (fr a m).2) cr e2
  exact ⟨b, a, vs, rfl, t.mono g2.sub, fun sz => k _ _ H1 _ g2 sz (src_enumF t al (sqB_sz sz (t.mono g2.sub))) q⟩⟩
theorem dif_zip (h : PI X (.Tuple elts kk tpos) it (iZipB X.K (liftA X.K B U))) : DIF X B (.Tuple elts kk tpos) it (xZip U) := pi_imp h fun σ H R ⟨γ, F, Q', Rl, hT, k⟩ => ⟨γ, F, _, Rl, hT, fun vs F1 H1 cs fp g crs nd fr ⟨c, c2, ds, es, e, e2, e3, q⟩ => by
  subst e
  have g2 := g.addF fr
  cases crs with
  | @cons _ _ _ _ f1 _ h1 hs => cases hs with
    | @cons _ _ _ _ f2 _ h2 hs =>
      cases hs
      obtain ⟨b, a, vs, rfl, t, al⟩ := seqF_frozen g.sub (fun a m => (fr a (List.mem_append_left _ m)).2) h1 e2
      obtain ⟨b2, a2, vs2, rfl, t2, al2⟩ := seqF_frozen g.sub (fun a m => (fr a (List.mem_append_right _ (List.mem_append_left _ m))).2) h2 e3
      have m1 := addF_mono (F := F1) (H := H1) (fp := f1) (fq := f1 ++ (f2 ++ [])) g.sub (fun a m => List.mem_append_left _ m)
      have m2 := addF_mono (F := F1) (H := H1) (fp := f2) (fq := f1 ++ (f2 ++ [])) g.sub (fun a m => List.mem_append_right _ (List.mem_append_left _ m))
      exact ⟨b, b2, a, a2, vs, vs2, rfl, t.mono (m1.trans g2.sub), t2.mono (m2.trans g2.sub), fun sz => k _ _ H1 _ g2 sz (src_zipF (t.mono m1) (t2.mono m2) (DpAll.mono m1 al) (sqB_sz sz (t.mono (m1.trans g2.sub))) (DpAll.mono m2 al2)) q⟩⟩
/-- .. read while expressions run -/
theorem seqF_stable {K : PySem.W.Frag} {F1 H1 : Hp} {v : V} {c : Cell} {fp : List Addr} {ds : List D} {da : Option Addr} (s : Same F1 H1) (fr : ∀ a ∈ fp, a ∉ B.ms) (cr : CR K da F1 H1 v c fp) (e : seqF c = some ds) :
    ∃ b a vs, v = .ref a ∧ SqB b K H1 a vs ∧ (∀ F H, Go B F1 H1 F H → SqB b K H a vs) ∧ DpAll K F1 vs ds := by
  rcases seqF_cases e with e | e
  · subst e
    obtain ⟨a, vs, rfl, t, al⟩ := cr.tup
    exact ⟨true, a, vs, rfl, SqT.mono s t, fun F H g => SqT.mono (g.ff.trans g.sub) t, al⟩
  · obtain ⟨a, vs, rfl, t, al⟩ := cr.frl s e
    rcases t with t | ⟨t, ef⟩
    · exact ⟨false, a, vs, rfl, s.seq t, fun F H g => (g.ff.trans g.sub).seq t, al⟩
    · exact ⟨false, a, vs, rfl, .inl (.inl t), fun F H g => .inl (.inl (g.hh a _ (fr a (by rw [ef]; simp)) t)), al⟩
theorem src_enumB {K : PySem.W.Frag} {F0 H0 : Hp} {b : Bool} {a : Addr} {vs : List V} {ds : List D} (h : ∀ F H, Go B F0 H0 F H → SqB b K H a vs) (al : DpAll K F0 vs ds) (hz : vs.length ≤ sizeLine) : SrcB K B (IteB b K a) F0 H0 (enumD ds) where
  sz := by simpa [enumD, DpAll.length al] using hz
  go := fun i F H g hi => by
    have hi' : i < ds.length := by simpa [enumD] using hi
    obtain ⟨v, e, _⟩ := DpAll.get al (List.getElem?_eq_getElem hi')
    exact ⟨vs, v, h F H g, e⟩
  stop := fun F H g => ⟨vs, h F H g, by simp [enumD, DpAll.length al]⟩
  yld := fun i F H x H' g0 hi y => by
    have hi' : i < ds.length := by simpa [enumD] using hi
    obtain ⟨T, z, e1, e2, e3, hy⟩ := y
    subst e1 e3
    obtain ⟨d, e4, e5⟩ := DpAll.getV al (hy vs (h F H g0))
    have g := Go.newF (B := B) (o := .tup [.int (i : Nat), z]) g0.sub g0.dk e2
    refine ⟨_, .tuple [.int i, d], ?_, g, .tup (.inl (.inl upd_same)) (.cons (.int _) (.cons (Dp.mono (g0.ff.trans g.ff) e5) .nil))⟩
    simp [enumD, e4]
theorem src_zipB {K : PySem.W.Frag} {F0 H0 : Hp} {b c : Bool} {a a2 : Addr} {vs ws : List V} {ds es : List D} (h : ∀ F H, Go B F0 H0 F H → SqB b K H a vs) (h2 : ∀ F H, Go B F0 H0 F H → SqB c K H a2 ws) (al : DpAll K F0 vs ds) (hz : vs.length ≤ sizeLine) (al2 : DpAll K F0 ws es) : SrcB K B (ItzB b c K a a2) F0 H0 (zipD ds es) where
  sz := by have := DpAll.length al; simp [zipD]; omega
  go := fun i F H g hi => by
    have hi' : i < min ds.length es.length := by simpa [zipD] using hi
    obtain ⟨v, e, _⟩ := DpAll.get al (List.getElem?_eq_getElem (show i < ds.length by omega))
    obtain ⟨w, e', _⟩ := DpAll.get al2 (List.getElem?_eq_getElem (show i < es.length by omega))
    exact ⟨vs, ws, v, w, h F H g, h2 F H g, e, e'⟩
  stop := fun F H g => ⟨vs, ws, h F H g, h2 F H g, by simp [zipD, DpAll.length al, DpAll.length al2]; omega, by simp [zipD, DpAll.length al, DpAll.length al2]; omega, by simp [zipD, DpAll.length al, DpAll.length al2]; omega⟩
  yld := fun i F H x H' g0 hi y => by
    obtain ⟨T, z, z2, e1, e2, e3, hy, hy2⟩ := y
    subst e1 e3
    obtain ⟨d, e4, e5⟩ := DpAll.getV al (hy vs (h F H g0))
    obtain ⟨d2, e6, e7⟩ := DpAll.getV al2 (hy2 ws (h2 F H g0))
    have g := Go.newF (B := B) (o := .tup [z, z2]) g0.sub g0.dk e2
    refine ⟨_, .tuple [d, d2], ?_, g, .tup (.inl (.inl upd_same)) (.cons (Dp.mono (g0.ff.trans g.ff) e5) (.cons (Dp.mono (g0.ff.trans g.ff) e7) .nil))⟩
    simp [zipD]
    exact List.getElem?_zip_eq_some.mpr ⟨e4, e6⟩
theorem dib_enum (h : PI X (.Tuple elts kk tpos) it (iEnumB X.K (liftB X.K B U))) : DIB X B (.Tuple elts kk tpos) it (xEnum U) := pi_imp h fun σ H R ⟨γ, F, Q', Rl, hT, k⟩ => ⟨γ, F, _, Rl, hT, fun vs F1 H1 cs fp g crs fr ⟨c, ds, e, e2, q⟩ => by
  subst e
  obtain ⟨v, rfl, cr⟩ := crs_one crs
  obtain ⟨b, a, vs, rfl, t, st, al⟩ := seqF_stable g.sub fr cr e2
  exact ⟨b, a, vs, rfl, t, fun sz => k _ _ H1 _ g sz (src_enumB st al (sqB_sz sz t)) q⟩⟩
theorem dib_zip (h : PI X (.Tuple elts kk tpos) it (iZipB X.K (liftB X.K B U))) : DIB X B (.Tuple elts kk tpos) it (xZip U) := pi_imp h fun σ H R ⟨γ, F, Q', Rl, hT, k⟩ => ⟨γ, F, _, Rl, hT, fun vs F1 H1 cs fp g crs fr ⟨c, c2, ds, es, e, e2, e3, q⟩ => by
  subst e
  cases crs with
  | @cons _ _ _ _ f1 _ h1 hs => cases hs with
    | @cons _ _ _ _ f2 _ h2 hs =>
      cases hs
      obtain ⟨b, a, vs, rfl, t, st, al⟩ := seqF_stable g.sub (fun a m => fr a (List.mem_append_left _ m)) h1 e2
      obtain ⟨b2, a2, vs2, rfl, t2, st2, al2⟩ := seqF_stable g.sub (fun a m => fr a (List.mem_append_right _ (List.mem_append_left _ m))) h2 e3
      exact ⟨b, b2, a, a2, vs, vs2, rfl, t, t2, fun sz => k _ _ H1 _ g sz (src_zipB st st2 al (sqB_sz sz t) al2) q⟩⟩
end
def compGo (G : XG) (U : XT) (T : XE) (γ : List Cell) (K : Cell → Prop) : List D → List Cell → Prop
  | [], acc => K (.ow acc)
  | d :: ds, acc => G d γ fun γ2 => U γ2 fun b => if b = true then T γ2 fun c => compGo G U T γ K ds (acc ++ [c]) else compGo G U T γ K ds acc
@[simp] def xLC (W : XI) (G : XG) (U : XT) (T : XE) (vs : List Nat) : XE := fun γ K => W γ fun ds => compGo G U T (wipeC γ vs) K ds []
def liftTs (X : Cx) (B : Bs) (ifs : List Expr) (U : XT) : Prop := PTs X ifs (liftT X.K B U)
@[simp] def uYes : XT := fun _ K => K true
theorem dts_nil {X : Cx} {B : Bs} : liftTs X B [] uYes := by
  have h := pts_nil (X := X)
  exact ⟨fun pins s σ H Q I ⟨γ, F, Q', R, hT, k⟩ => h.run pins s σ H Q I (k true F H R.refl hT)⟩
theorem dts_one {X : Cx} {B : Bs} {c : Expr} {U : XT} (h : DT X B c U) : liftTs X B [c] U := pts_one h
theorem wipe_eq {σ σ' : L2.St} (hl : σ'.length = σ.length) {sl : List Nat} (h : ∀ i, i ∉ sl → σ'[i]? = σ[i]?) : ∀ {vs : List Nat}, (∀ i ∈ sl, i ∈ vs) → wipe σ' vs = wipe σ vs := by
  intro vs hv
  apply List.ext_getElem?
  intro j
  have out : ∀ (σ : L2.St) (vs : List Nat) (j : Nat), j ∈ vs → (wipe σ vs)[j]? = if j < σ.length then some none else none := by
    intro σ vs
    induction vs with
    | nil => intro j hj; cases hj
    | cons v vs ih =>
      intro j hj
      unfold wipe
      by_cases e : v = j
      · subst e
        by_cases hlt : v < σ.length
        · rw [if_pos hlt, List.getElem?_set_self (by rw [wipe_length]; exact hlt)]
        · rw [if_neg hlt, List.getElem?_eq_none (by rw [List.length_set, wipe_length]; omega)]
      · rw [List.getElem?_set_ne e]
        rcases List.mem_cons.mp hj with z | z
        · exact absurd z.symm e
        · exact ih j z
  by_cases hj : j ∈ vs
  · rw [out _ _ _ hj, out _ _ _ hj, hl]
  · rw [wipe_out hj, wipe_out hj]
    exact h j fun z => hj (hv j z)
theorem wipe_wipe {σ : L2.St} : ∀ {vs : List Nat}, wipe (wipe σ vs) vs = wipe σ vs := by
  intro vs
  exact wipe_eq (wipe_length σ vs) (sl := vs) (fun i hi => wipe_out hi) (fun i hi => hi)
theorem app_nodup {H : Hp} {fp f : List Addr} (n1 : fp.Nodup) (n2 : f.Nodup) (h : ∀ a ∈ fp, ∃ o, H a = some o) (h2 : ∀ a ∈ f, H a = none) : (fp ++ f).Nodup :=
  List.nodup_append.mpr ⟨n1, n2, fun a ha b hb e => by
    subst e
    obtain ⟨o, z⟩ := h a ha
    rw [h2 a hb] at z; cases z⟩
section
variable {X : Cx} {B : Bs}
theorem Go.put {F H F' H' : Hp} {p : Addr} {o : HO} (g : Go B F H F' H') (dk : DeckOk B H) (h : H p = Option.none) (hf : F' p = Option.none) (hx : ∀ φ, H' p ≠ some (.ext φ)) : Go B F H F' (upd H' p o) := by
  have hm := not_ms dk h
  refine ⟨g.ff, fun a x m e => by rw [upd_ne (ne_of_none e h)]; exact g.hh a x m e, g.nw, fun a x e => ?_, g.dk.keep (fun a m => upd_ne fun z => hm (z ▸ m)) fun a q e => by rw [upd_ne fun z => hx _ (by rw [← z]; exact e)]; exact e⟩
  rw [upd_ne (ne_of_none e hf)]
  exact g.sub a x e
/-- the reading of a comprehension -/
theorem lc_read0 {W : XI} {G : XG} {U : XT} {T : XE} {sl vs : List Nat} {σ : L2.St} {H F : Hp} {γ : List Cell} {Q' : Cell → Prop} {Q : VK} (hsl : ∀ i ∈ sl, i ∈ vs) (Rl : Rel X.K B γ F H σ) (hT : xLC W G U T vs γ Q')
    (k : ∀ v F' H' c fp, Go B F H F' H' → CR X.K B.dd F' H' v c fp → fp.Nodup → (∀ a ∈ fp, H a = none ∧ F' a = none) → Q' c → Q v H') : tLc (liftIB X.K B W) (liftG X.K B sl G) (liftT X.K B U) (liftE X.K B T) vs σ H Q := by
  refine ⟨γ, F, _, Rl, hT, fun J F1 H1 ds g1 sz1 src hq D nD => ?_⟩
  have dk1 := g1.dk
  have mD : D ∉ B.ms := not_ms dk1 nD
  have R1 := (Rl.step g1).wipe vs
  refine ⟨fun i m H => m = ds.length - i ∧ i ≤ ds.length ∧ ∃ F2 acc vacc fp, Go B F1 H1 F2 H ∧ H D = some (.lst vacc) ∧ F2 D = none ∧ CRs X.K B.dd F2 H vacc acc fp ∧ fp.Nodup ∧
    (∀ a ∈ fp, H1 a = none ∧ F2 a = none ∧ a ≠ D) ∧ vacc.length ≤ i ∧ compGo G U T (wipeC γ vs) Q' (ds.drop i) acc, ?_, ?_⟩
  · refine ⟨ds.length, by simp, Nat.zero_le _, F1, [], [], [], Go.new g1.sub dk1 nD, upd_same, ?_, .nil, List.nodup_nil, (fun _ z => nomatch z), Nat.le_refl _, by simpa using hq⟩
    cases e : F1 D with
    | none => rfl
    | some o => rw [g1.sub D o e] at nD; cases nD
  · rintro i m H2 ⟨rfl, hi, F2, acc, vacc, fp, g2, hD, fD, crs, nd, fr, hlen, go⟩
    by_cases hlt : i < ds.length
    · refine .inr ⟨src.go i F2 H2 g2 hlt, fun H' => i + 1 ≤ ds.length ∧ ∃ F2 acc vacc fp, Go B F1 H1 F2 H' ∧ H' D = some (.lst vacc) ∧ F2 D = none ∧ CRs X.K B.dd F2 H' vacc acc fp ∧ fp.Nodup ∧
        (∀ a ∈ fp, H1 a = none ∧ F2 a = none ∧ a ≠ D) ∧ vacc.length ≤ i + 1 ∧ compGo G U T (wipeC γ vs) Q' (ds.drop (i + 1)) acc, fun H' hN => ⟨ds.length - (i + 1), by omega, rfl, hN.1, hN.2⟩, fun x H3 y => ?_⟩
      obtain ⟨F3, d, ed, g3, hd⟩ := src.yld i F2 H2 x H3 g2 hlt y
      have edr : ds.drop i = d :: ds.drop (i + 1) := by
        obtain ⟨z, e⟩ := List.getElem?_eq_some_iff.mp ed
        rw [List.drop_eq_getElem_cons hlt, e]
      rw [edr] at go
      have g23 := g2.trans g3
      refine ⟨wipeC γ vs, F3, d, _, R1.step g23, hd, go, fun γ2 σ2 R2 kp ln _ q2 => ⟨(wipe_eq (by rw [ln]) (sl := sl) kp hsl).trans wipe_wipe, γ2, F3, _, R2, q2, fun b F4 H4 g4 q4 => ?_⟩⟩
      have g34 := g3.trans g4
      cases b with
      | true =>
        refine iteT ⟨γ2, F4, _, R2.step g4, (if_pos rfl).mp q4, fun z F5 H5 c f g5 sz5 cr ndc frc q5 => ?_⟩
        have g25 := g34.trans g5
        have tD : ∀ {o : HO}, H2 D = some o → H5 D = some o := fun e => g25.hh D _ mD e
        have fD5 : F5 D = none := g25.nw D fD (by rw [hD]; exact fun z => by cases z)
        have g15 := g2.trans g25
        have keep : ∀ a ∈ fp, ∀ o, H2 a = some o → (upd H5 D (.lst (vacc ++ [z]))) a = some o := fun a m o e => by
          rw [upd_ne (fr a m).2.2]
          exact g25.hh a o (not_ms dk1 (fr a m).1) e
        have crD : ∀ a ∈ f, a ≠ D := fun a m e => by
          subst e
          have := (frc a m).1
          rw [g34.hh a _ mD hD] at this
          cases this
        refine ⟨vacc, tD hD, ?_, hlt, F5, acc ++ [c], vacc ++ [z], fp ++ f, g15.put dk1 nD fD5 (fun φ z => by rw [tD hD] at z; cases z), upd_same, fD5, ?_, ?_, fun a m => ?_, ?_, q5⟩
        · exact Nat.lt_of_le_of_lt hlen (Nat.lt_of_lt_of_le hlt src.sz)
        · refine CRs.app (crs.mono g25.ff keep) (CRs.one (cr.mono (Same.refl F5) fun a m o e => ?_))
          rw [upd_ne (crD a m)]; exact e
        · refine app_nodup (H := H4) nd ndc (fun a m => ?_) fun a m => (frc a m).1
          obtain ⟨o, e⟩ := crs.there a m
          exact ⟨o, g34.hh a o (not_ms dk1 (fr a m).1) e⟩
        · rcases List.mem_append.mp m with m | m
          · refine ⟨(fr a m).1, g25.nw a (fr a m).2.1 ?_, (fr a m).2.2⟩
            obtain ⟨o, e⟩ := crs.there a m
            rw [e]; exact fun z => by cases z
          · exact ⟨(g2.trans g34).none (frc a m).1, (frc a m).2, crD a m⟩
        · rw [List.length_append]
          show vacc.length + 1 ≤ i + 1
          omega
      | false =>
        have g14 := g2.trans g34
        have fD4 : F4 D = none := g34.nw D fD (by rw [hD]; exact fun z => by cases z)
        refine iteF ⟨hlt, F4, acc, vacc, fp, g14, g34.hh D _ mD hD, fD4, crs.mono g34.ff (fun a m o e => g34.hh a o (not_ms dk1 (fr a m).1) e), nd, fun a m => ⟨(fr a m).1, g34.nw a (fr a m).2.1 ?_, (fr a m).2.2⟩, Nat.le_succ_of_le hlen, (if_neg Bool.false_ne_true).mp q4⟩
        obtain ⟨o, e⟩ := crs.there a m
        rw [e]; exact fun z => by cases z
    · have e : i = ds.length := by omega
      subst e
      refine .inl ⟨src.stop F2 H2 g2, ?_⟩
      have go' : Q' (.ow acc) := by simpa [compGo] using go
      refine k (.ref D) F2 H2 (.ow acc) (D :: fp) (g1.trans g2) (.ow hD crs) (List.nodup_cons.mpr ⟨fun m => (fr D m).2.2 rfl, nd⟩) (fun a m => ?_) go'
      rcases List.mem_cons.mp m with e | m
      · subst e; exact ⟨g1.none nD, fD⟩
      · exact ⟨g1.none (fr a m).1, (fr a m).2.1⟩
theorem de_lc {e : Expr} {W : XI} {G : XG} {U : XT} {T : XE} {sl vs : List Nat} (h : PE X e (tLc (liftIB X.K B W) (liftG X.K B sl G) (liftT X.K B U) (liftE X.K B T) vs)) (hsl : ∀ i ∈ sl, i ∈ vs := by decide) : DE X B e (xLC W G U T vs) :=
  pe_imp h fun σ H Q ⟨γ, F, Q', Rl, hT, k⟩ _ => lc_read0 hsl Rl hT fun v F' H' c fp g cr nd fr q sz => k v F' H' c fp g sz cr nd fr q
end
structure XEnds where
  nx : List Cell → Prop
  rt : Cell → Prop
  bk : List Cell → Prop := fun _ => False
  ct : List Cell → Prop := fun _ => False
abbrev XS := XEnds → List Cell → Prop
/-- what is given back -/
def Fin (K : PySem.W.Frag) (B : Bs) (F H : Hp) (v : V) (c : Cell) : Prop := Go B B.F0 B.G F H ∧ ∃ fp, CR K B.dd F H v c fp ∧ fp.Nodup ∧ ∀ a ∈ fp, B.G a = none ∧ F a = none
def liftS (K : PySem.W.Frag) (B : Bs) (T : XS) : TS := fun Dd σ H => ∃ γ F D', Rel K B γ F H σ ∧ T D' γ ∧
  (∀ γ' F' σ' H', Rel K B γ' F' H' σ' → Same F F' → D'.nx γ' → Dd.nx σ' H') ∧ (∀ γ' F' σ' H', Rel K B γ' F' H' σ' → Same F F' → D'.bk γ' → Dd.bk σ' H') ∧
  (∀ γ' F' σ' H', Rel K B γ' F' H' σ' → Same F F' → D'.ct γ' → Dd.ct σ' H') ∧ ∀ v F' H' c, Fin K B F' H' v c → D'.rt c → Dd.rt v H'
def DS (X : Cx) (B : Bs) (st : Stmt) (T : XS) : Prop := PS X st (liftS X.K B T)
def DSs (X : Cx) (B : Bs) (st : List Stmt) (T : XS) : Prop := PSs X st (liftS X.K B T)
theorem ps_imp {X : Cx} {st : Stmt} {t t' : TS} (h : PS X st t) (k : ∀ D σ H, t' D σ H → t D σ H) : PS X st t' := ⟨fun pins s σ H D I h' => h.run pins s σ H D I (k _ _ _ h')⟩
theorem pss_imp {X : Cx} {st : List Stmt} {t t' : TS} (h : PSs X st t) (k : ∀ D σ H, t' D σ H → t D σ H) : PSs X st t' := ⟨fun pins s σ H D I h' => h.run pins s σ H D I (k _ _ _ h')⟩
section
variable {X : Cx} {B : Bs} {st : Stmt} {rest a b : List Stmt} {T U : XS} {e : Expr} {TT : XE} {pos pos' : Pos}
@[simp] def sNext : XS := fun D γ => D.nx γ
@[simp] def sSeq (T U : XS) : XS := fun D γ => T { D with nx := fun γ1 => U D γ1 } γ
theorem dss_nil : DSs X B [] sNext := pss_imp pss_nil fun D σ H ⟨γ, F, D', R, hT, k1, k2, k3, k4⟩ => k1 γ F σ H R (Same.refl F) hT
theorem dss_cons (h1 : DS X B st T) (h2 : DSs X B rest U) : DSs X B (st :: rest) (sSeq T U) := pss_imp (pss_cons h1 h2) fun D σ H ⟨γ, F, D', R, hT, k1, k2, k3, k4⟩ =>
  ⟨γ, F, { D' with nx := fun γ1 => U D' γ1 }, R, hT, fun γ' F' σ' H' R' s q => ⟨γ', F', D', R', q, fun γ2 F2 σ2 H2 R2 s2 q2 => k1 γ2 F2 σ2 H2 R2 (s.trans s2) q2, fun γ2 F2 σ2 H2 R2 s2 q2 => k2 γ2 F2 σ2 H2 R2 (s.trans s2) q2,
    fun γ2 F2 σ2 H2 R2 s2 q2 => k3 γ2 F2 σ2 H2 R2 (s.trans s2) q2, k4⟩, k2, k3, k4⟩
theorem dss_one (h : DS X B st T) : DSs X B [st] T := pss_one h
/-- slots frozen ahead of a statement -/
@[simp] def fzAll (γ : List Cell) : List Nat → List Cell
  | [] => γ
  | i :: is => fzAll (γ.set i (frz (γ.getD i .un))) is
@[simp] def sFz (is : List Nat) (T : XS) : XS := fun D γ => T D (fzAll γ is)
theorem rel_fzAll {K : PySem.W.Frag} {γ : List Cell} {F H : Hp} {σ : L2.St} (R : Rel K B γ F H σ) : ∀ is : List Nat, ∃ F', Same F F' ∧ Rel K B (fzAll γ is) F' H σ := by
  intro is
  induction is generalizing γ F with
  | nil => exact ⟨F, Same.refl F, R⟩
  | cons i is ih =>
    obtain ⟨F1, s1, R1⟩ := R.fz i
    obtain ⟨F2, s2, R2⟩ := ih R1
    exact ⟨F2, s1.trans s2, R2⟩
theorem dss_fz (is : List Nat) (h : DSs X B a T) : DSs X B a (sFz is T) := pss_imp h fun D σ H ⟨γ, F, D', R, hT, k1, k2, k3, k4⟩ => by
  obtain ⟨F1, s1, R1⟩ := rel_fzAll R is
  exact ⟨_, F1, D', R1, hT, fun γ2 F2 σ2 H2 R2 s2 q2 => k1 γ2 F2 σ2 H2 R2 (s1.trans s2) q2, fun γ2 F2 σ2 H2 R2 s2 q2 => k2 γ2 F2 σ2 H2 R2 (s1.trans s2) q2, fun γ2 F2 σ2 H2 R2 s2 q2 => k3 γ2 F2 σ2 H2 R2 (s1.trans s2) q2, k4⟩
theorem ds_fz (is : List Nat) (h : DS X B st T) : DS X B st (sFz is T) := ps_imp h fun D σ H ⟨γ, F, D', R, hT, k1, k2, k3, k4⟩ => by
  obtain ⟨F1, s1, R1⟩ := rel_fzAll R is
  exact ⟨_, F1, D', R1, hT, fun γ2 F2 σ2 H2 R2 s2 q2 => k1 γ2 F2 σ2 H2 R2 (s1.trans s2) q2, fun γ2 F2 σ2 H2 R2 s2 q2 => k2 γ2 F2 σ2 H2 R2 (s1.trans s2) q2, fun γ2 F2 σ2 H2 R2 s2 q2 => k3 γ2 F2 σ2 H2 R2 (s1.trans s2) q2, k4⟩
theorem Rel.fin {K : PySem.W.Frag} {γ : List Cell} {F H F' H' : Hp} {σ : L2.St} {v : V} {c : Cell} {fp : List Addr} (R : Rel K B γ F H σ) (g : Go B F H F' H') (cr : CR K B.dd F' H' v c fp) (nd : fp.Nodup) (fr : ∀ a ∈ fp, H a = none ∧ F' a = none) : Fin K B F' H' v c :=
  ⟨R.go.trans g, fp, cr, nd, fun a m => ⟨R.go.none (fr a m).1, (fr a m).2⟩⟩
@[simp] def sRet (T : XE) : XS := fun D γ => T γ D.rt
theorem ds_ret (h : DE X B e TT) : DS X B (.Return (some e) pos) (sRet TT) := ps_imp (ps_ret h) fun D σ H ⟨γ, F, D', R, hT, k1, k2, k3, k4⟩ =>
  ⟨γ, F, _, R, hT, fun v F' H' c fp g sz cr nd fr q => k4 v F' H' c (R.fin g cr nd fr) q⟩
@[simp] def sNever : XS := fun _ _ => False
theorem ds_never : DS X B st sNever := ps_imp ps_never fun D σ H ⟨γ, F, D', R, hT, _⟩ => hT
theorem ds_pass : DS X B (.Pass pos) sNext := ps_imp ps_pass fun D σ H ⟨γ, F, D', R, hT, k1, _⟩ => k1 γ F σ H R (Same.refl F) hT
@[simp] def sBrk : XS := fun D γ => D.bk γ
@[simp] def sCnt : XS := fun D γ => D.ct γ
theorem ds_brk : DS X B (.Break pos) sBrk := ps_imp ps_break fun D σ H ⟨γ, F, D', R, hT, k1, k2, _⟩ => k2 γ F σ H R (Same.refl F) hT
theorem ds_cnt : DS X B (.Continue pos) sCnt := ps_imp ps_continue fun D σ H ⟨γ, F, D', R, hT, k1, k2, k3, _⟩ => k3 γ F σ H R (Same.refl F) hT
@[simp] def sDrop (T : XE) : XS := fun D γ => T γ fun _ => D.nx γ
theorem ds_expr (h : DE X B e TT) (hs : swapsWith e none pos.line X.env = pure false := by rfl) : DS X B (.Expr e pos) (sDrop TT) := ps_imp (ps_expr h hs) fun D σ H ⟨γ, F, D', R, hT, k1, k2, k3, k4⟩ =>
  ⟨γ, F, _, R, hT, fun v F' H' c fp g sz cr nd fr q => k1 γ F' σ H' (R.step g) g.ff q⟩
@[simp] def sIf (C : XT) (T U : XS) : XS := fun D γ => C γ fun b => if b = true then T D γ else U D γ
theorem ds_if {c : Expr} {C : XT} (hc : DT X B c C) (ha : DSs X B a T) (hb : DSs X B b U) : DS X B (.If c a b pos) (sIf C T U) := ps_imp (ps_if hc ha hb) fun D σ H ⟨γ, F, D', R, hT, k1, k2, k3, k4⟩ =>
  ⟨γ, F, _, R, hT, fun d F1 H1 g q => by
    have R1 := R.step g
    have go : ∀ {T : XS}, T D' γ → liftS X.K B T D σ H1 := fun h => ⟨γ, F1, D', R1, h, fun γ2 F2 σ2 H2 R2 s2 q2 => k1 γ2 F2 σ2 H2 R2 (g.ff.trans s2) q2, fun γ2 F2 σ2 H2 R2 s2 q2 => k2 γ2 F2 σ2 H2 R2 (g.ff.trans s2) q2, fun γ2 F2 σ2 H2 R2 s2 q2 => k3 γ2 F2 σ2 H2 R2 (g.ff.trans s2) q2, k4⟩
    cases d with
    | true => exact iteT (go ((if_pos rfl).mp q))
    | false => exact iteF (go ((if_neg Bool.false_ne_true).mp q))⟩
/-- name = e -/
@[simp] def sSet (i : Nat) (T : XE) : XS := fun D γ => T γ fun c => D.nx (γ.set i c)
theorem ds_set {i : Nat} {x : Str} (hN : X.N.Nodup) (h : DE X B e TT) (hi : X.N[i]? = some x := by rfl) (hx : Loc X.env.scope x := by first | exact Or.inl rfl | exact Or.inr rfl) (hs : swapsWith e (some (.Name x pos')) pos.line X.env = pure false := by rfl) (hf : X.fn x = true ∨ X.env.scope.names.lookup x = some .local := by first | exact .inl rfl | exact .inr rfl) :
    DS X B (.Assign [.Name x pos'] e pos) (sSet i TT) := ps_imp (ps_set hN hi hx h hs hf) fun D σ H ⟨γ, F, D', R, hT, k1, k2, k3, k4⟩ =>
  ⟨γ, F, _, R, hT, fun v F' H' c fp g sz cr nd fr q => k1 _ F' _ H' (R.set g cr nd fr i) g.ff q⟩
/-- name = [.. for ..] on one line -/
theorem ds_setLc {i : Nat} {vs : List Nat} {sl : List Nat} {W : XI} {G : XG} {UU : XT} {TE' : XE} (h : PS X st (tAsg (tLc (liftIB X.K B W) (liftG X.K B sl G) (liftT X.K B UU) (liftE X.K B TE') vs) (gName i))) (hsl : ∀ i ∈ sl, i ∈ vs := by decide) :
    DS X B st (sSet i (xLC W G UU TE' vs)) := ps_imp h fun D σ H ⟨γ, F, D', R, hT, k1, k2, k3, k4⟩ =>
  lc_read0 hsl R hT fun v F' H' c fp g cr nd fr q => k1 _ F' _ H' (R.set g cr nd fr i) g.ff q
/-- a, b = e -/
@[simp] def sAsg (T : XE) (G : XG) : XS := fun D γ => T γ fun c => ∃ d, c = .im d ∧ G d γ D.nx
theorem ds_asg {tg : Expr} {G : XG} {sl : List Nat} (h : DE X B e TT) (hg : DG X B tg sl G) (hs : swapsWithSole [tg] e pos.line X.env = pure false := by rfl) (hw : swappedStores [tg] e X.env = pure none := by rfl)
    (h1 : (assignEach [tg] X.env).map (·.2) = [assign tg X.env] := by rfl) : DS X B (.Assign [tg] e pos) (sAsg TT G) := ps_imp (ps_asg h hg hs hw h1) fun D σ H ⟨γ, F, D', R, hT, k1, k2, k3, k4⟩ =>
  ⟨γ, F, _, R, hT, fun v F' H' c fp g sz cr nd fr ⟨d, e, q⟩ => by
    subst e
    cases cr with
    | im h => exact ⟨γ, F', d, _, R.step g, h, q, fun γ' σ' R' _ _ _ q' => k1 γ' F' σ' H' R' g.ff q'⟩⟩
end
end DL
set_option maxHeartbeats 1000000
namespace DL
open PySem PySem.Spec PyProof.Rows L2
section
variable {X : Cx} {B : Bs} {st : Stmt} {rest a b : List Stmt} {T U : XS} {e : Expr} {TT TI' : XE} {pos pos' : Pos} {UA : XA}
def forGo (G : XG) (T : XS) (E : XEnds) : List D → List Cell → Prop
  | [], γ => E.nx γ
  | d :: ds, γ => G d γ fun γ2 => T { E with nx := fun γ3 => forGo G T E ds γ3, ct := fun γ3 => forGo G T E ds γ3, bk := E.nx } γ2
@[simp] def sFor (W : XI) (G : XG) (T : XS) : XS := fun D γ => W γ fun ds => forGo G T D ds γ
theorem ds_for {W : XI} {G : XG} {sl : List Nat} (h : PS X st (tFor (liftIF X.K B W) (liftG X.K B sl G) (liftS X.K B T))) : DS X B st (sFor W G T) :=
  ps_imp h fun Dd σ H ⟨γ, F, D', R, hT, k1, k2, k3, k4⟩ => ⟨γ, F, _, R, hT, fun J F1 H1 ds g1 sz1 src go => by
    refine ⟨fun i m σ H => m = ds.length - i ∧ i ≤ ds.length ∧ ∃ γ F2, Rel X.K B γ F2 H σ ∧ Same F1 F2 ∧ forGo G T D' (ds.drop i) γ, ⟨ds.length, by simp, Nat.zero_le _, γ, F1, R.step g1, Same.refl F1, by simpa using go⟩, ?_⟩
    rintro i m σ2 H2 ⟨rfl, hi, γ2, F2, R2, s12, go2⟩
    by_cases hlt : i < ds.length
    · refine .inr ⟨src.go i F2 H2 s12 R2.sub hlt, fun σ H => i + 1 ≤ ds.length ∧ ∃ γ F2, Rel X.K B γ F2 H σ ∧ Same F1 F2 ∧ forGo G T D' (ds.drop (i + 1)) γ, fun σ' H' hN => ⟨ds.length - (i + 1), by omega, rfl, hN.1, hN.2⟩, fun x H3 y => ?_⟩
      obtain ⟨F3, d, ed, g3, hd⟩ := src.yld i F2 H2 x H3 s12 R2.sub R2.dk hlt y
      have edr : ds.drop i = d :: ds.drop (i + 1) := by
        obtain ⟨z, e⟩ := List.getElem?_eq_some_iff.mp ed
        rw [List.drop_eq_getElem_cons hlt, e]
      rw [edr] at go2
      have s03 : Same F F3 := g1.ff.trans (s12.trans g3.ff)
      refine ⟨γ2, F3, d, _, R2.step g3, hd, go2, fun γ4 σ4 R4 _ _ _ q4 => ⟨γ4, F3, _, R4, q4, fun γ5 F5 σ5 H5 R5 s5 q5 => ⟨hlt, γ5, F5, R5, (s12.trans g3.ff).trans s5, q5⟩, fun γ5 F5 σ5 H5 R5 s5 q5 => k1 γ5 F5 σ5 H5 R5 (s03.trans s5) q5, fun γ5 F5 σ5 H5 R5 s5 q5 => ⟨hlt, γ5, F5, R5, (s12.trans g3.ff).trans s5, q5⟩, k4⟩⟩
    · have e : i = ds.length := by omega
      subst e
      have q : D'.nx γ2 := by simpa [forGo] using go2
      exact .inl ⟨src.stop F2 H2 s12 R2.sub, k1 γ2 F2 σ2 H2 R2 (g1.ff.trans s12) q⟩⟩
def sWhile (C : XT) (T : XS) : XS := fun D γ => ∃ W : Nat → List Cell → Prop, (∃ m, W m γ) ∧ ∀ m γ, W m γ → C γ fun b => if b = true then T { D with nx := fun γ' => ∃ m', m' < m ∧ W m' γ', ct := fun γ' => ∃ m', m' < m ∧ W m' γ', bk := D.nx } γ else D.nx γ
theorem ds_while {C : XT} (h : PS X st (tWhile (liftT X.K B C) (liftS X.K B T))) : DS X B st (sWhile C T) :=
  ps_imp h fun Dd σ H ⟨γ, F, D', R, ⟨W, ⟨m0, w0⟩, turn⟩, k1, k2, k3, k4⟩ => by
    refine ⟨fun m σ H => ∃ γ F2, Rel X.K B γ F2 H σ ∧ Same F F2 ∧ W m γ, ⟨m0, γ, F, R, Same.refl F, w0⟩, ?_⟩
    rintro m σ2 H2 ⟨γ2, F2, R2, s2, w2⟩
    refine ⟨γ2, F2, _, R2, turn m γ2 w2, fun b F3 H3 g q => ?_⟩
    cases b with
    | true =>
      have q' := (if_pos rfl).mp q
      refine iteT ⟨fun σ H => ∃ m', m' < m ∧ ∃ γ F2, Rel X.K B γ F2 H σ ∧ Same F F2 ∧ W m' γ, fun σ' H' ⟨m', hm, hw⟩ => ⟨m', hm, hw⟩, γ2, F3, _, R2.step g, q', fun γ5 F5 σ5 H5 R5 s5 ⟨m', hm, hw⟩ => ⟨m', hm, γ5, F5, R5, (s2.trans g.ff).trans s5, hw⟩,
        fun γ5 F5 σ5 H5 R5 s5 q5 => k1 γ5 F5 σ5 H5 R5 ((s2.trans g.ff).trans s5) q5, fun γ5 F5 σ5 H5 R5 s5 ⟨m', hm, hw⟩ => ⟨m', hm, γ5, F5, R5, (s2.trans g.ff).trans s5, hw⟩, k4⟩
    | false => exact iteF (k1 γ2 F3 σ2 H3 (R2.step g) (s2.trans g.ff) ((if_neg Bool.false_ne_true).mp q))
/-- the object of slot i behind an evaluation, and how it may change -/
theorem Rel.change {K : PySem.W.Frag} {γ : List Cell} {F H F' H' : Hp} {σ : L2.St} (R : Rel K B γ F H σ) (g : Go B F H F' H') {i : Nat} {c : Cell} (e : γ[i]? = some c) (n : c ≠ .un) :
    ∃ v f, σ[i]? = some (some v) ∧ CR K B.dd F' H' v c f ∧ f.Nodup ∧ (∀ a ∈ f, H a ≠ none ∧ F' a = none ∧ a ∉ B.ms) ∧
      ∀ (H2 : Hp) (c' : Cell) (f' : List Addr), (∀ a, a ∉ f → H' a ≠ none → H2 a = H' a) → CR K B.dd F' H2 v c' f' → f'.Nodup → (∀ a ∈ f', a ∈ f ∨ (H a = none ∧ F' a = none)) → Rel K B (γ.set i c') F' H2 σ := by
  have R' := R.step g
  obtain ⟨fp, h1, h2, h3⟩ := R.sl
  have h1' : SlotsR K B.dd F' H' σ γ fp := h1.mono g.ff fun a m o e => g.hh a o (R.fpms (h3 a m).2) e
  have h3' : ∀ a ∈ fp, H a ≠ none ∧ F' a = none := fun a m => by
    obtain ⟨o, z⟩ := h1.there a m
    have hn : H a ≠ none := by rw [z]; exact fun z => by cases z
    exact ⟨hn, g.nw a (h3 a m).1 hn⟩
  obtain ⟨v, f, q1, q2, q3, q4, q5⟩ := h1'.change h2 e n
  refine ⟨v, f, q1, q2, q3, fun a m => ⟨(h3' a (q4 a m)).1, (h3' a (q4 a m)).2, R.fpms (h3 a (q4 a m)).2⟩, fun H2 c' f' keep cr' nd' out => ?_⟩
  have tr : ∀ {a o}, H' a = some o → a ∉ f → H2 a = some o := fun {a o} e nf => by
    rw [keep a nf (by rw [e]; exact fun z => by cases z)]; exact e
  obtain ⟨fp', s1, s2, s3⟩ := q5 F' H2 c' f' (Same.refl F') (fun a m nf => keep a nf (by
    obtain ⟨o, z⟩ := h1'.there a m
    rw [z]; exact fun z => by cases z)) cr' nd' fun a m => by
      rcases out a m with z | z
      · exact .inl z
      · exact .inr fun y => (h3' a y).1 z.1
  refine ⟨⟨R'.go.ff, fun a o m eg => tr (R'.go.hh a o m eg) (fun mf => by rw [(h3 a (q4 a mf)).2] at eg; cases eg), R'.go.nw, fun a o ef => tr (R'.sub a o ef) (fun mf => by rw [(h3' a (q4 a mf)).2] at ef; cases ef), ?_⟩, R'.mf, R'.mg, fp', s1, s2, fun a m => ?_⟩
  · refine R'.dk.keep (fun a m => keep a (fun mf => R.fpms (h3 a (q4 a mf)).2 m) ?_) fun a q e => tr e fun m => q2.noext a m _ e
    obtain ⟨o, z⟩ := R'.dk.there a m
    rw [z]; exact fun z => by cases z
  · rcases s3 a m with z | ⟨z, _⟩
    · rcases out a z with y | ⟨y1, y2⟩
      · exact ⟨(h3' a (q4 a y)).2, (h3 a (q4 a y)).2⟩
      · exact ⟨y2, R.go.none y1⟩
    · exact ⟨(h3' a z).2, (h3 a z).2⟩
/-- x.append(e) -/
@[simp] def sApp (i : Nat) (T : XE) : XS := fun E γ => ∃ cs, γ[i]? = some (.ow cs) ∧ T γ fun c => cs.length < sizeLine ∧ E.nx (γ.set i (.ow (cs ++ [c])))
theorem ds_app {i : Nat} (h : PS X st (tDrop (tBM X.K "list" rAppend (tVar i) (tCons (liftE X.K B TT) tNil)))) : DS X B st (sApp i TT) :=
  ps_imp h fun Dd σ H ⟨γ, F, D', R, ⟨cs, e, hT⟩, k1, k2, k3, k4⟩ => by
    obtain ⟨v, f, h1, h2, h3, h4⟩ := R.get e (by intro z; cases z)
    cases h2 with
    | ow t al =>
      refine ⟨_, h1, .inl ⟨rfl, _, .inl (.inl t)⟩, γ, F, _, R, hT, fun y F1 H1 c f1 g sz cr nd fr ⟨hl, q⟩ => ?_⟩
      obtain ⟨v2, f2, q1, q2, q3, q4, q5⟩ := R.change g e (by intro z; cases z)
      rw [h1] at q1; cases q1
      cases q2 with
      | @ow _ vs2 _ fp2 t2 al2 =>
        refine ⟨_, _, _, rfl, rfl, t2, by rw [al2.length]; exact hl, ?_⟩
        have na : ∀ a ∈ f1, a ∉ _ :: fp2 := fun a m z => (q4 a z).1 (fr a m).1
        refine k1 _ F1 σ _ (q5 _ _ (_ :: (fp2 ++ f1)) (fun a nf _ => upd_ne fun z => nf (by rw [z]; exact List.mem_cons_self)) (.ow upd_same (CRs.app (al2.mono (Same.refl _) fun a m o eo => ?_) (CRs.one (cr.mono (Same.refl _) fun a m o eo => ?_)))) ?_ fun a m => ?_) g.ff q
        · rw [upd_ne fun z => (List.nodup_cons.mp q3).1 (by rw [← z]; exact m)]; exact eo
        · rw [upd_ne fun z => na a m (by rw [z]; exact List.mem_cons_self)]; exact eo
        · refine List.nodup_cons.mpr ⟨fun m => ?_, List.nodup_append.mpr ⟨(List.nodup_cons.mp q3).2, nd, fun a ha b hb e => ?_⟩⟩
          · rcases List.mem_append.mp m with m | m
            · exact (List.nodup_cons.mp q3).1 m
            · exact na _ m List.mem_cons_self
          · subst e; exact na a hb (List.mem_cons_of_mem _ ha)
        · rcases List.mem_cons.mp m with z | m
          · exact .inl (by rw [z]; exact List.mem_cons_self)
          · rcases List.mem_append.mp m with m | m
            · exact .inl (List.mem_cons_of_mem _ m)
            · exact .inr (fr a m)
/-- x.extend(e), e a new list of data -/
@[simp] def sExt (i : Nat) (T : XE) : XS := fun E γ => ∃ cs, γ[i]? = some (.ow cs) ∧ T γ fun c => ∃ es, c = .ow es ∧ cs.length + es.length ≤ sizeLine ∧ E.nx (γ.set i (.ow (cs ++ es)))
theorem ds_ext {i : Nat} (h : PS X st (tDrop (tBM X.K "list" rExtend (tVar i) (tCons (liftE X.K B TT) tNil)))) : DS X B st (sExt i TT) :=
  ps_imp h fun Dd σ H ⟨γ, F, D', R, ⟨cs, e, hT⟩, k1, k2, k3, k4⟩ => by
    obtain ⟨v, f, h1, h2, h3, h4⟩ := R.get e (by intro z; cases z)
    cases h2 with
    | @ow l _ _ _ t al =>
      refine ⟨_, h1, .inl ⟨rfl, _, .inl (.inl t)⟩, γ, F, _, R, hT, fun y F1 H1 c f1 g sz cr nd fr ⟨es, ec, hl, q⟩ => ?_⟩
      subst ec
      obtain ⟨v2, f2, q1, q2, q3, q4, q5⟩ := R.change g e (by intro z; cases z)
      rw [h1] at q1; cases q1
      cases cr with
      | @ow b zs _ fz tz alz =>
        cases q2 with
        | @ow _ vs2 _ fp2 t2 al2 =>
          refine ⟨_, _, _, _, rfl, rfl, t2, tz, by rw [al2.length, alz.length]; exact hl, ?_⟩
          have na : ∀ a ∈ fz, a ∉ l :: fp2 := fun a m z => (q4 a z).1 (fr a (List.mem_cons_of_mem _ m)).1
          refine k1 _ F1 σ _ (q5 _ _ (l :: (fp2 ++ fz)) (fun a nf _ => upd_ne fun z => nf (by rw [z]; exact List.mem_cons_self)) (.ow upd_same (CRs.app (al2.mono (Same.refl _) fun a m o eo => ?_) (alz.mono (Same.refl _) fun a m o eo => ?_))) ?_ fun a m => ?_) g.ff q
          · rw [upd_ne fun z => (List.nodup_cons.mp q3).1 (by rw [← z]; exact m)]; exact eo
          · rw [upd_ne fun z => na a m (by rw [z]; exact List.mem_cons_self)]; exact eo
          · refine List.nodup_cons.mpr ⟨fun m => ?_, List.nodup_append.mpr ⟨(List.nodup_cons.mp q3).2, (List.nodup_cons.mp nd).2, fun a ha b hb e => ?_⟩⟩
            · rcases List.mem_append.mp m with m | m
              · exact (List.nodup_cons.mp q3).1 m
              · exact na _ m List.mem_cons_self
            · subst e; exact na a hb (List.mem_cons_of_mem _ ha)
          · rcases List.mem_cons.mp m with z | m
            · exact .inl (by rw [z]; exact List.mem_cons_self)
            · rcases List.mem_append.mp m with m | m
              · exact .inl (List.mem_cons_of_mem _ m)
              · exact .inr (fr a (List.mem_cons_of_mem _ m))
/-- x[k] = e -/
@[simp] def sSetIx (i : Nat) (TI TT : XE) : XS := fun E γ => TT γ fun c => ∃ cs, γ[i]? = some (.ow cs) ∧ TI γ fun k => ∃ n j, k = .im (.int n) ∧ ixN cs.length n = some j ∧ E.nx (γ.set i (.ow (cs.set j c)))
theorem ds_setIx {i : Nat} (h : PS X st (tAsg (liftE X.K B TT) (gSub (tVar i) (liftR X.K B TI') rSetL))) : DS X B st (sSetIx i TI' TT) :=
  ps_imp h fun Dd σ H ⟨γ, F, D', R, hT, k1, k2, k3, k4⟩ => ⟨γ, F, _, R, hT, fun y F1 H1 c f1 g sz cr nd fr ⟨cs, e, hI⟩ => by
    have R1 := R.step g
    obtain ⟨v, f, h1, h2, h3, h4⟩ := R1.get e (by intro z; cases z)
    refine ⟨v, h1, γ, F1, _, R1, hI, fun k F2 H2 ck fk g2 szk crk frk ⟨n, j, ek, hj, q⟩ => ?_⟩
    subst ek
    rw [crk.int]
    obtain ⟨v2, f2, q1, q2, q3, q4, q5⟩ := R.change (g.trans g2) e (by intro z; cases z)
    rw [h1] at q1; cases q1
    cases q2 with
    | @ow l vs2 _ fp2 t2 al2 =>
      refine ⟨_, _, n, j, rfl, rfl, t2, by rw [al2.length]; exact hj, ?_⟩
      have fr2 : ∀ a ∈ f1, H a = none ∧ F2 a = none := fun a m => ⟨(fr a m).1, g2.nw a (fr a m).2 (by
        obtain ⟨o, z⟩ := cr.there a m
        rw [z]; exact fun z => by cases z)⟩
      have cr2 : CR X.K B.dd F2 H2 y c f1 := cr.mono g2.ff fun a m o eo => g2.hh a o (not_ms R.dk (fr a m).1) eo
      have na : ∀ a ∈ f1, a ∉ l :: fp2 := fun a m z => (q4 a z).1 (fr a m).1
      have cru : CR X.K B.dd F2 (upd H2 l (.lst (vs2.set j y))) y c f1 := cr2.mono (Same.refl _) fun a m o eo => by
        rw [upd_ne fun z => na a m (by rw [z]; exact List.mem_cons_self)]; exact eo
      obtain ⟨fp', w1, w2, w3⟩ := CRs.set cru j (al2.mono (Same.refl _) (H' := upd H2 l (.lst (vs2.set j y))) fun a m o eo => by
        rw [upd_ne fun z => (List.nodup_cons.mp q3).1 (by rw [← z]; exact m)]; exact eo)
      refine k1 _ F2 σ _ (q5 _ _ (l :: fp') (fun a nf _ => upd_ne fun z => nf (by rw [z]; exact List.mem_cons_self)) (.ow upd_same w1) ?_ fun a m => ?_) (g.trans g2).ff q
      · refine List.nodup_cons.mpr ⟨fun m => ?_, w3 (List.nodup_append.mpr ⟨nd, (List.nodup_cons.mp q3).2, fun a ha b hb e => ?_⟩)⟩
        · rcases w2 _ m with m | m
          · exact na _ m List.mem_cons_self
          · exact (List.nodup_cons.mp q3).1 m
        · subst e; exact na a ha (List.mem_cons_of_mem _ hb)
      · rcases List.mem_cons.mp m with z | m
        · exact .inl (by rw [z]; exact List.mem_cons_self)
        · rcases w2 a m with m | m
          · exact .inr (fr2 a m)
          · exact .inl (List.mem_cons_of_mem _ m)⟩
end
end DL
set_option maxHeartbeats 1000000
namespace DL
open PySem PySem.Spec PyProof.Rows L2
/-- what a def does: its arguments' cells, what is wanted of its result -/
abbrev FS := List Cell → (Cell → Prop) → Prop
def exc (H : Hp) (fp : List Addr) : Hp := fun a => if a ∈ fp then none else H a
theorem exc_in {H : Hp} {fp : List Addr} {a : Addr} (h : a ∈ fp) : exc H fp a = none := by unfold exc; rw [if_pos h]
theorem exc_out {H : Hp} {fp : List Addr} {a : Addr} (h : a ∉ fp) : exc H fp a = H a := by unfold exc; rw [if_neg h]
def spOf (K : PySem.W.Frag) (dn : Dn) (S : FS) : Sp := fun vs H Q _ => ∃ F da cs fp K', Same F H ∧ DeckOk ⟨H, F, da, dn⟩ H ∧ (∀ a ∈ (Bs.mk H F da dn).ms, F a = none ∧ a ∉ fp) ∧
  CRs K (da.map (·.1)) F H vs cs fp ∧ fp.Nodup ∧ (∀ a ∈ fp, F a = none) ∧ S cs K' ∧ ∀ v F' H' c, Fin K ⟨exc H fp, F, da, dn⟩ F' H' v c → K' c → Q v H'
section
variable {P : Program} {w : World} {K : PySem.W.Frag} {mg : Str → Option Value} {base : Heap}
structure FnG (P : Program) (w : World) (K : PySem.W.Frag) (mg : Str → Option Value) (base : Heap) (k : Nat) (f : Addr) (fd : FuncData) (ps : List Str) (sp : Sp) : Prop where
  len : ∀ vs H Q E, sp vs H Q E → vs.length = ps.length
  run : ∀ (A : Around) (outer : List Env) (s : Shared) (H : Hp) (args : Args) (us : List Value) (vs : List V) (Q : VK) (E : XK), Room k A → A.guards = some [] → Env0 P w K mg base A outer s H → BindsTo s fd args (ps.zip us) → Vals vs us → sp vs H Q E →
    codeAny (model P w) A (.call (.ref f) args) (L2.CR CX0 outer P w H s Q E) s
theorem FnG.of {k : Nat} {f : Addr} {fd : FuncData} {ps : List Str} {sp : Sp} (F : FnOk P w K mg base CX0 k f fd ps sp) : FnG P w K mg base k f fd ps sp :=
  ⟨F.len, fun A o s H args us vs Q E hr _ => F.run A o s H args us vs Q E hr⟩
theorem FnG.mono {j k : Nat} {f : Addr} {fd : FuncData} {ps : List Str} {sp : Sp} (F : FnG P w K mg base j f fd ps sp) (h : j ≤ k) : FnG P w K mg base k f fd ps sp :=
  ⟨F.len, fun A o s H args us vs Q E hr => F.run A o s H args us vs Q E (hr.mono h)⟩
theorem fnG_of {k : Nat} {f : Addr} {nm qual : Str} {pms : Arguments} {bd : List Stmt} {sc : Scope} {dV kV doc pm cdv ct oc : Value} {an od : Option Addr} {osl : Array (Option Value)} {N ps : List Str} {sp : Sp}
    (lk : K.lookup f = some ⟨oc, od, .func (PySem.W.fnOf nm qual pms bd sc dV kV doc pm an cdv ct), osl⟩) (hcd : PySem.W.codeIn K cdv qual = true) (S : FnScope N ps sc) (len : ∀ vs H Q E, sp vs H Q E → vs.length = ps.length)
    (hbody : ∀ (A : Around) (outer : List Env) (s : Shared) (H : Hp) (vs : List V) (Q : VK) (E : XK), Room k (A.deeper (envOfC qual sc s.heap.objs.size f cdv)) → A.guards = some [] → sp vs H Q E →
      ∃ t, PSs (cxOf CX0 P w K mg base N qual sc f cdv A outer s H E) bd t ∧ t { nx := fun _ H' => Q .non H', rt := Q } (L2.start N vs) H) :
    FnG P w K mg base (k + 1) f (PySem.W.fnOf nm qual pms bd sc dV kV doc pm an cdv ct) ps sp where
  len := len
  run := by
    intro A outer s H args us vs Q E hr hgd e0 hb r hsp
    have keep : ∀ b o, base.get? b = some o → s.heap.get? b = some o := fun b o e => (e0.bs b o e).1
    have KX : K.In s.heap := e0.mod.kin.keeps keep
    have lim : s.heap.NoLimit := e0.mod.nolimit.keeps keep
    have hk : ∀ y ∈ ps.zip us, sc.names.lookup y.1 = some .local ∨ (sc.names.lookup y.1 = some .cell ∧ ((cellsFrom (s.heap.objs.size + 1) sc.names []).lookup y.1).isSome = true) := by
      rintro ⟨n, v⟩ hy
      exact (S.par n (List.of_mem_zip hy).1).imp id fun q => ⟨q, PySem.W.cellsFrom_some _ _ _ (.inl q)⟩
    refine codeAny_call_function hr.depth (KX _ _ lk) rfl S.co S.gen rfl (PySem.W.codeRec_of KX hcd) (hb _ _ _ _ (wpAny_newFunctionEnv_cells S.kind hk ?_))
    rintro env1 he s1 x
    subst he
    refine ⟨lim.keeps x.toInCall.keep, codeAny_func ?_⟩
    obtain ⟨t, ht, hq⟩ := hbody A outer s H vs Q E (hr.deeper _) hgd hsp
    refine wpAny_mono (ht.run [] s1 (L2.start N vs) H _ (inv_start S hr.hd e0 (len _ _ _ _ hsp) r x) hq) ?_ fun e s' hs => hs
    rintro fl s' hs
    cases fl with
    | brk => exact hs.choose_spec.choose_spec.2.elim
    | cont => exact hs.choose_spec.choose_spec.2.elim
    | next =>
      obtain ⟨σ1, H1, J, q⟩ := hs
      exact ⟨.non, H1, J.os, J.bare, J.base, J.hok, rfl, q⟩
    | ret u =>
      obtain ⟨v, σ1, H1, J, rv, q⟩ := hs
      exact ⟨v, H1, J.os, J.bare, J.base, J.hok, rv, q⟩
section
variable {X : Cx} {k : Nat} {f : Addr} {fd : FuncData} {ps : List Str} {sp : Sp} {x : Str} {p pos : Pos} {e : Expr} {es : List Expr} {t : TA}
theorem run_fnG {pins : List (Addr × Obj)} {σ : L2.St} {H : Hp} {s : Shared} {Q : VK} {us : List Value} {vs : List V} (F : FnG X.prog X.w X.K X.mg X.base k f fd ps sp) (hr : Room k X.A) (hgd : X.A.guards = some []) (hb : Binds X.K fd ps []) (I : Inv X pins σ H s) (r : Vals vs us) (h : sp vs H Q E0) :
    wpAny (model X.prog X.w) X.A (call (.ref f) us) (EP X pins σ Q) X.xe s := by
  have hl : us.length = ps.length := r.length.symm.trans (F.len _ _ _ _ h)
  have hbs := hb s us I.kIn (by rw [List.append_nil]; exact hl)
  rw [List.append_nil] at hbs
  refine wpAny_call (codeAny_mono (F.run X.A X.stack s H ⟨us, []⟩ us vs Q E0 hr hgd I.env0 hbs r h) ?_)
  rintro (e | fl) s' hq
  · exact pass0 pins σ H s e s' I hq
  · cases fl with
    | ret u => exact I.after hq
    | next => exact hq.elim
    | brk => exact hq.elim
    | cont => exact hq.elim
theorem pe_callG (F : FnG X.prog X.w X.K X.mg X.base k f fd ps sp) (hr : Room k X.A) (hgd : X.A.guards = some []) (hg : Gl X x) (hm : X.mg x = some (.ref f)) (hk : PySem.W.keepIn X.K (.ref f) = true) (hb : Binds X.K fd ps []) (ha : PA X (e :: es) t) (hdb : (x == ("__debug__" : Str)) = false := by decide)
    (he : starEach (e :: es) X.env = (false, eval e X.env) :: starEach es X.env := by rfl) (hpl : (backTo pos (starEach es X.env)).any (·.1) = false := by rfl) : PE X (.Call (.Name x p) (e :: es) [] pos) (fun σ H Q => t σ H fun vs H1 => sp vs H1 Q E0) where
  run := fun pins s σ H Q I h => wpAny_Call_Name_kw (ld_glob I hg hm (PySem.W.callWith_K (h₀ := X.base) I.ok.mod.kin hk (thn (ha.run pos pins s σ H _ I h) fun us s1 ⟨vs, H1, I1, r, q⟩ => ⟨I1.kIn, run_fnG F hr hgd hb I1 r q⟩) he hpl) hdb)
theorem pe_callG0 (F : FnG X.prog X.w X.K X.mg X.base k f fd ps sp) (hr : Room k X.A) (hgd : X.A.guards = some []) (hg : Gl X x) (hm : X.mg x = some (.ref f)) (hk : PySem.W.keepIn X.K (.ref f) = true) (hb : Binds X.K fd ps []) (hdb : (x == ("__debug__" : Str)) = false := by decide) :
    PE X (.Call (.Name x p) [] [] pos) (fun σ H Q => sp [] H Q E0) where
  run := fun pins s σ H Q I h => wpAny_Call_Name_kw (ld_glob I hg hm (PySem.W.callWith_K0 I.kIn hk (run_fnG F hr hgd hb I .nil h)) hdb)
end
end
section
variable {X : Cx} {B : Bs} {st : Stmt} {rest a b : List Stmt} {T U : XS} {e : Expr} {TT TI' : XE} {pos pos' : Pos} {UA UB : XA}
@[simp] def xCall (S : FS) (U : XA) : XE := fun γ K => U γ fun cs => S cs K
theorem call_core {S : FS} {σ : L2.St} {H : Hp} {Q : VK} {γ : List Cell} {F : Hp} {Q' : Cell → Prop} (R : Rel X.K B γ F H σ) (k : Gives X.K B F H Q' Q) {vs : List V} {F1 H1 : Hp} {cs : List Cell} {fp : List Addr} (g : Go B F H F1 H1) (crs : CRs X.K B.dd F1 H1 vs cs fp) (nd : fp.Nodup)
    (fr : ∀ a ∈ fp, H a = none ∧ F1 a = none) (q : S cs Q') : spOf X.K B.dn S vs H1 (fun v H' => SzH X.K H' → Q v H') E0 := by
  refine ⟨F1, B.da, cs, fp, Q', g.sub, g.dk, fun a m => ⟨(R.step g).mf a m, fun z => not_ms R.dk (fr a z).1 m⟩, crs, nd, fun a m => (fr a m).2, q, fun v F' H' c ⟨go, fp', cr, nd', fr'⟩ q' sz => ?_⟩
  have np : ∀ {a}, H a ≠ none → a ∉ fp := fun h m => h (fr _ m).1
  refine k v F' H' c fp' ⟨g.ff.trans go.ff, fun a o m e => go.hh a o m ?_, fun a e n => go.nw a (g.nw a e n) ?_, go.sub, go.dk⟩ sz cr nd' (fun a m => ⟨?_, (fr' a m).2⟩) q'
  · show exc H1 fp a = some o
    rw [exc_out (np (by rw [e]; exact fun z => by cases z))]
    exact g.hh a o m e
  · show exc H1 fp a ≠ none
    rw [exc_out (np n)]
    exact g.there n
  · have z := (fr' a m).1
    by_cases ma : a ∈ fp
    · exact (fr a ma).1
    · have z' : exc H1 fp a = none := z
      rw [exc_out ma] at z'
      exact g.none z'
theorem de_call {S : FS} (h : PE X e (fun σ H Q => liftA X.K B UA σ H fun vs H1 => spOf X.K B.dn S vs H1 Q E0)) : DE X B e (xCall S UA) :=
  pe_imp h fun σ H Q ⟨γ, F, Q', R, hT, k⟩ _ => ⟨γ, F, _, R, hT, fun vs F1 H1 cs fp g crs nd fr q => call_core R k g crs nd fr q⟩
theorem de_call0 {S : FS} (h : PE X e (fun σ H Q => spOf X.K B.dn S [] H Q E0)) : DE X B e (xCall S xNil) :=
  pe_imp h fun σ H Q ⟨γ, F, Q', R, hT, k⟩ _ => call_core R k R.refl .nil List.nodup_nil (fun _ m => nomatch m) hT
/-- keywords alone: the parameters' values out of the keywords' -/
@[simp] def pickV {α : Type} (d : α) (is : List Nat) (vs : List α) : List α := is.map fun i => vs.getD i d
theorem crs_pick {K : PySem.W.Frag} {da : Option Addr} {F H : Hp} {vs : List V} {cs : List Cell} {fp : List Addr} (h : CRs K da F H vs cs fp) (fl : ∀ c ∈ cs, c.flat = true) : ∀ {is : List Nat}, CRs K da F H (pickV .non is vs) (pickV .un is cs) []
  | [] => .nil
  | i :: is => by
    have ih := crs_pick h fl (is := is)
    refine CRs.cons (f := []) ?_ ih
    show CR K da F H (vs.getD i .non) (cs.getD i .un) []
    rw [List.getD_eq_getElem?_getD, List.getD_eq_getElem?_getD]
    cases e : cs[i]? with
    | none =>
      have : vs[i]? = none := by
        rw [List.getElem?_eq_none_iff] at e ⊢
        rw [h.length]; exact e
      rw [this]; exact .un
    | some c =>
      obtain ⟨v, f, e1, cr, _⟩ := h.get e
      have := cr.flat (fl c (List.mem_of_getElem? e))
      subst this
      rw [e1]; exact cr
theorem vals_pick {vs : List V} {us : List Value} (h : Vals vs us) : ∀ {is : List Nat}, Vals (pickV .non is vs) (pickV .none is us)
  | [] => .nil
  | i :: is => by
    refine .cons ?_ (vals_pick h (is := is))
    show RelV (vs.getD i .non) (us.getD i .none)
    rw [List.getD_eq_getElem?_getD, List.getD_eq_getElem?_getD]
    cases e : vs[i]? with
    | none =>
      have : us[i]? = none := by
        rw [List.getElem?_eq_none_iff] at e ⊢
        rw [← h.length]; exact e
      rw [this]; exact rfl
    | some c =>
      obtain ⟨u, e1, r⟩ := h.get e
      rw [e1]; exact r
theorem pe_callK0 {k : Nat} {f : Addr} {fd : FuncData} {ps ks : List Str} {sp : Sp} {x : Str} {p pos : Pos} {kws : List Keyword} {tk : TA} {is : List Nat} (F : FnG X.prog X.w X.K X.mg X.base k f fd ps sp) (hr : Room k X.A) (hgd : X.A.guards = some []) (hg : Gl X x) (hm : X.mg x = some (.ref f)) (hk : PySem.W.keepIn X.K (.ref f) = true)
    (hb : ∀ ws : List Value, ws.length = ks.length → bindArgs fd ⟨[], ks.zip ws⟩ = pure (ps.zip (pickV .none is ws))) (hlen : is.length = ps.length) (hkl : kws.length = ks.length)
    (hkw : PK X kws tk) (hall : (backToKw pos (keywordEach kws X.env)).all (·.1.isSome) = true := by rfl) (hks : (backToKw pos (keywordEach kws X.env)).filterMap (·.1) = ks := by rfl)
    (hdb : (x == ("__debug__" : Str)) = false := by decide)
    (hpl : ((backTo pos (starEach [] X.env)).any (·.1) || (backToKw pos (keywordEach kws X.env)).any (·.1.isNone)) = false := by rfl) :
    PE X (.Call (.Name x p) [] kws pos) (fun σ H Q => tk σ H fun zs H2 => zs.length = ks.length ∧ sp (pickV .non is zs) H2 Q E0) := by
  refine ⟨fun pins s σ H Q I h => ?_⟩
  refine wpAny_Call_Name_kw (ld_glob I hg hm ?_ hdb)
  refine PySem.W.callWith_KW0 (h₀ := X.base) I.ok.mod.kin hk hall (thn (hkw.run pos pins s σ H _ I h) fun ws s2 ⟨zs, H2, I2, rz, hz, q2⟩ => ⟨I2.kIn, ?_⟩) hpl
  rw [hks]
  have r2 := vals_pick rz (is := is)
  refine wpAny_call (codeAny_mono (F.run X.A X.stack s2 H2 ⟨[] ++ [], ks.zip ws⟩ (pickV .none is ws) (pickV .non is zs) Q E0 hr hgd I2.env0 (.of_eq (hb ws (by rw [← rz.length]; exact hz))) r2 q2) fun r s' hq => ?_)
  cases r with
  | error e => exact pass0 pins σ H2 s2 e s' I2 hq
  | ok fl =>
    cases fl with
    | ret u => exact I2.after hq
    | next => exact False.elim hq
    | brk => exact False.elim hq
    | cont => exact False.elim hq
/-- the keywords' values, kept -/
def DK (X : Cx) (B : Bs) (kws : List Keyword) (T : XA) : Prop := PK X kws (liftA X.K B T)
theorem pk_imp {kws : List Keyword} {t t' : TA} (h : PK X kws t) (k : ∀ σ H Q, t' σ H Q → t σ H Q) : PK X kws t' :=
  ⟨fun pos pins s σ H Q I q => h.run pos pins s σ H Q I (k _ _ _ q)⟩
theorem dk_nil : DK X B [] xNil := pk_imp pk_nil fun σ H Q ⟨γ, F, Q', R, hT, k⟩ => k [] F H [] [] R.refl .nil List.nodup_nil (fun _ m => nomatch m) hT
theorem dk_cons {kws : List Keyword} {T : XE} {U : XA} {nm : Option Str} {kpos : Pos} (h : DE X B e T) (hr : DK X B kws U) : DK X B (⟨nm, e, kpos⟩ :: kws) (xCons T U) :=
  pk_imp (pk_cons h hr) fun σ H Q ⟨γ, F, Q', R, hT, k⟩ => ⟨γ, F, _, R, hT, fun v F1 H1 c f g1 sz cr nd fr q => ⟨γ, F1, _, R.step g1, q, fun vs F2 H2 cs fp g2 crs nds frs q2 => by
    have d1 := R.dk
    refine k (v :: vs) F2 H2 (c :: cs) (f ++ fp) (g1.trans g2) (.cons (cr.mono g2.ff fun a m o e => g2.hh a o (not_ms d1 (fr a m).1) e) crs) ?_ (fun a m => ?_) q2
    · refine List.nodup_append.mpr ⟨nd, nds, fun a ha b hb e => ?_⟩
      subst e
      obtain ⟨o, z⟩ := cr.there a ha
      rw [(frs a hb).1] at z; cases z
    · rcases List.mem_append.mp m with m | m
      · refine ⟨(fr a m).1, g2.nw a (fr a m).2 ?_⟩
        obtain ⟨o, z⟩ := cr.there a m
        rw [z]; exact fun z => by cases z
      · exact ⟨g1.none (frs a m).1, (frs a m).2⟩⟩⟩
@[simp] def xCallK (S : FS) (n : Nat) (is : List Nat) (U : XA) : XE := fun γ K => U γ fun cs => cs.length = n ∧ (∀ c ∈ cs, c.flat = true) ∧ S (pickV .un is cs) K
theorem de_callK {S : FS} {n : Nat} {is : List Nat} (h : PE X e (fun σ H Q => liftA X.K B UA σ H fun zs H2 => zs.length = n ∧ spOf X.K B.dn S (pickV .non is zs) H2 Q E0)) : DE X B e (xCallK S n is UA) :=
  pe_imp h fun σ H Q ⟨γ, F, Q', R, hT, k⟩ _ => ⟨γ, F, _, R, hT, fun vs F1 H1 cs fp g crs nd fr ⟨hn, fl, q⟩ => ⟨crs.length.trans hn, call_core R k g (crs_pick crs fl) List.nodup_nil (fun _ m => nomatch m) q⟩⟩
@[simp] def setAll (γ : List Cell) : List Nat → List Cell → List Cell
  | i :: is, c :: cs => setAll (γ.set i c) is cs
  | _, _ => γ
@[simp] def sPar (is : List Nat) (U : XA) : XS := fun E γ => U γ fun cs => cs.length = is.length ∧ E.nx (setAll γ is cs)
def setSt (σ : L2.St) : List Nat → List V → L2.St
  | i :: is, v :: vs => setSt (σ.set i (some v)) is vs
  | _, _ => σ
theorem rel_setAll {K : PySem.W.Frag} {γ : List Cell} {F H F' H' : Hp} {σ : L2.St} (R : Rel K B γ F H σ) (g : Go B F H F' H') : ∀ {is : List Nat} {vs : List V} {cs : List Cell} {fp : List Addr}, CRs K B.dd F' H' vs cs fp → fp.Nodup → (∀ a ∈ fp, H a = none ∧ F' a = none) → Rel K B (setAll γ is cs) F' H' (setSt σ is vs) := by
  have key : ∀ {is : List Nat} {vs : List V} {cs : List Cell} {fp : List Addr} {γ : List Cell} {σ : L2.St}, (∃ fq, SlotsR K B.dd F' H' σ γ fq ∧ fq.Nodup ∧ (∀ a ∈ fq, F' a = none ∧ B.G a = none) ∧ ∀ a ∈ fp, a ∉ fq) → CRs K B.dd F' H' vs cs fp → fp.Nodup → (∀ a ∈ fp, H a = none ∧ F' a = none) →
      ∃ fq, SlotsR K B.dd F' H' (setSt σ is vs) (setAll γ is cs) fq ∧ fq.Nodup ∧ ∀ a ∈ fq, F' a = none ∧ B.G a = none := by
    intro is
    induction is with
    | nil => intro vs cs fp γ σ ⟨fq, h1, h2, h3, _⟩ _ _ _; exact ⟨fq, by cases vs <;> cases cs <;> exact h1, h2, h3⟩
    | cons i is ih =>
      intro vs cs fp γ σ ⟨fq, h1, h2, h3, h4⟩ crs nd fr
      cases crs with
      | nil => exact ⟨fq, h1, h2, h3⟩
      | @cons v vs c cs f fp cr crs =>
        obtain ⟨n1, n2, n3⟩ := List.nodup_append.mp nd
        obtain ⟨fr', w1, w2, w3⟩ := h1.set cr i
        refine ih ⟨fr', w1, w3 (List.nodup_append.mpr ⟨n1, h2, fun a ha b hb e => h4 a (List.mem_append_left _ ha) (e ▸ hb)⟩), fun a m => ?_, fun a m z => ?_⟩ crs n2 fun a m => fr a (List.mem_append_right _ m)
        · rcases w2 a m with y | y
          · exact ⟨(fr a (List.mem_append_left _ y)).2, R.go.none (fr a (List.mem_append_left _ y)).1⟩
          · exact h3 a y
        · rcases w2 a z with y | y
          · exact n3 a y a m rfl
          · exact h4 a (List.mem_append_right _ m) y
  intro is vs cs fp crs nd fr
  have R' := R.step g
  obtain ⟨fq, h1, h2, h3⟩ := R.sl
  have t1 : ∀ a ∈ fq, H a ≠ none := fun a m => by
    obtain ⟨o, z⟩ := h1.there a m
    rw [z]; exact fun z => by cases z
  obtain ⟨fr', w1, w2, w3⟩ := key (is := is) ⟨fq, h1.mono g.ff fun a m o e => g.hh a o (R.fpms (h3 a m).2) e, h2, fun a m => ⟨g.nw a (h3 a m).1 (t1 a m), (h3 a m).2⟩, fun a m z => t1 a z (fr a m).1⟩ crs nd fr
  exact ⟨R'.go, R'.mf, R'.mg, fr', w1, w2, w3⟩
theorem len2 {α : Type} {l : List α} (h : l.length = 2) : ∃ a b, l = [a, b] := match l, h with | [a, b], _ => ⟨a, b, rfl⟩
theorem len3 {α : Type} {l : List α} (h : l.length = 3) : ∃ a b c, l = [a, b, c] := match l, h with | [a, b, c], _ => ⟨a, b, c, rfl⟩
theorem ds_par2 {i j : Nat} (h : PS X st (tPar i j (liftA X.K B UA))) : DS X B st (sPar [i, j] UA) := ps_imp h fun Dd σ H ⟨γ, F, D', R, hT, k1, k2, k3, k4⟩ => ⟨γ, F, _, R, hT, fun vs F1 H1 cs fp g crs nd fr ⟨hl, q⟩ => by
  obtain ⟨v, w, rfl⟩ := len2 (crs.length.trans hl)
  exact ⟨v, w, rfl, k1 _ F1 _ H1 (rel_setAll R g (is := [i, j]) crs nd fr) g.ff q⟩⟩
theorem ds_par3 {i j l : Nat} (h : PS X st (tPar3 i j l (liftA X.K B UA))) : DS X B st (sPar [i, j, l] UA) := ps_imp h fun Dd σ H ⟨γ, F, D', R, hT, k1, k2, k3, k4⟩ => ⟨γ, F, _, R, hT, fun vs F1 H1 cs fp g crs nd fr ⟨hl, q⟩ => by
  obtain ⟨u, v, w, rfl⟩ := len3 (crs.length.trans hl)
  exact ⟨u, v, w, rfl, k1 _ F1 _ H1 (rel_setAll R g (is := [i, j, l]) crs nd fr) g.ff q⟩⟩
/-- .. by a tuple that is made and unpacked -/
def gNames : List Nat → TGs
  | [] => gNil
  | i :: is => L2.gCons (gName i) (gNames is)
theorem gNames_go {is : List Nat} : ∀ {vs : List V} {σ : L2.St} {H : Hp} {Q : L2.St → Hp → Prop}, vs.length = is.length → Q (setSt σ is vs) H → gNames is vs σ H Q := by
  induction is with
  | nil => intro vs σ H Q hl q; cases vs with
    | nil => exact ⟨rfl, q⟩
    | cons _ _ => simp at hl
  | cons i is ih => intro vs σ H Q hl q; cases vs with
    | nil => simp at hl
    | cons v vs => exact ⟨v, vs, rfl, ih (by simpa using hl) q⟩
theorem ds_parN {is : List Nat} {n : Nat} (h : PS X st (tAsg (tTup (liftA X.K B UA)) (gTup X.K n (gNames is)))) (hn : is.length = n := by rfl) (hs : n ≤ 1000 := by decide) : DS X B st (sPar is UA) := ps_imp h fun Dd σ H ⟨γ, F, D', R, hT, k1, k2, k3, k4⟩ => ⟨γ, F, _, R, hT, fun vs F1 H1 cs fp g crs nd fr ⟨hl, q⟩ => by
  have hv := crs.length
  refine ⟨Nat.le_of_lt (small1000 (by omega)), fun p np => ?_⟩
  have g2 := Go.new (B := B) (o := .tup vs) g.sub g.dk np
  have g3 := g.trans g2
  refine ⟨p, vs, rfl, .inl (.inl upd_same), by omega, gNames_go (by omega) (k1 _ F1 _ _ (rel_setAll R g3 (is := is) (crs.mono (Same.refl _) fun a m o e => g2.hh a o (not_ms R.dk (fr a m).1) e) nd fr) g.ff q)⟩⟩
/-- x += e of ints -/
@[simp] def sAug (i : Nat) (f : Int → Int → Int) (T : XE) : XS := fun E γ => ∃ m, γ[i]? = some (.im (.int m)) ∧ T γ fun c => ∃ n, c = .im (.int n) ∧ E.nx (γ.set i (.im (.int (f m n))))
theorem ds_aug {i : Nat} {f : Int → Int → Int} (h : PS X st (tAug i (liftR X.K B TT) (ipI f))) : DS X B st (sAug i f TT) := ps_imp h fun Dd σ H ⟨γ, F, D', R, ⟨m, e, hT⟩, k1, k2, k3, k4⟩ => by
  obtain ⟨v, ff, h1, h2, h3, h4⟩ := R.get e (by intro z; cases z)
  refine ⟨v, h1, γ, F, _, R, hT, fun y F1 H1 c f1 g sz cr fr ⟨n, ec, q⟩ => ?_⟩
  subst ec
  rw [cr.int, h2.int]
  exact ⟨m, n, rfl, rfl, k1 _ F1 _ H1 ((R.step g).setD (.int _) i) g.ff q⟩
end
end DL
set_option maxHeartbeats 1000000
namespace DL
open PySem PySem.Spec PyProof.Rows L2
abbrev FnP (K : PySem.W.Frag) (x : Str) (st : Stmt) (f : Addr) (fd : FuncData) : Prop := FunD K x x (defArgs st) (defBody st) (defScope st) [] [] f fd
/-- a def that keeps S -/
structure Cal (P : Program) (w : World) (K : PySem.W.Frag) (mg : Str → Option Value) (base : Heap) (dn : Dn) (k : Nat) (x : Str) (st : Stmt) (ps : List Str) (S : FS) : Prop where
  ex : ∃ (nm : Str) (f : Addr) (fd : FuncData), mg x = some (.ref f) ∧ FnP K nm st f fd ∧ Binds K fd ps [] ∧ FnG P w K mg base k f fd ps (spOf K dn S)
section
variable {P : Program} {w : World} {K : PySem.W.Frag} {mg : Str → Option Value} {base : Heap}
theorem fn_okD {x : Str} {st : Stmt} {f : Addr} {fd : FuncData} {N ps : List Str} {k : Nat} {dn : Dn} {S : FS} {T : XS} (F : FnP K x st f fd) (Sc : FnScope N ps (defScope st)) (len : ∀ cs K', S cs K' → cs.length = ps.length)
    (body : ∀ (cdv : Value) (A : Around) (outer : List Env) (s : Shared) (H : Hp) (E : XK) (B : Bs), B.dn = dn → Room k (A.deeper (envOfC x (defScope st) s.heap.objs.size f cdv)) → A.guards = some [] → DSs (cxOf CX0 P w K mg base N x (defScope st) f cdv A outer s H E).nox B (defBody st) T)
    (main : ∀ cs K', S cs K' → T { nx := fun _ => K' (.im .none), rt := K' } (cs ++ List.replicate (N.length - cs.length) .un)) : FnG P w K mg base (k + 1) f fd ps (spOf K dn S) := by
  obtain ⟨oc, od, dV, kV, doc, pm, an, cdv, ct, osl, rfl, lk, hcdI, _, _⟩ := F.ex
  refine fnG_of lk hcdI Sc (fun vs H Q E ⟨F0, da, cs, fp, K', _, _, _, crs, _, _, hS, _⟩ => by rw [crs.length]; exact len cs K' hS) (fun A outer s H vs Q E hr hgd ⟨F0, da, cs, fp, K', sm, dk, mf, crs, nd, hF, hS, k1⟩ => ?_)
  refine ⟨_, (PSs.nox (body cdv A outer s H E ⟨exc H fp, F0, da, dn⟩ rfl hr hgd)), ?_⟩
  have hl : cs.length = ps.length := len cs K' hS
  have dk' : DeckOk ⟨exc H fp, F0, da, dn⟩ H := dk
  have g0 : Go ⟨exc H fp, F0, da, dn⟩ F0 (exc H fp) F0 H := ⟨Same.refl _, fun a o _ e => by
    by_cases m : a ∈ fp
    · rw [exc_in m] at e; cases e
    · rwa [exc_out m] at e, fun a e _ => e, sm, dk'⟩
  have R : Rel K ⟨exc H fp, F0, da, dn⟩ (cs ++ List.replicate (N.length - cs.length) .un) F0 H (L2.start N vs) := by
    refine ⟨g0, fun a m => (mf a m).1, fun a m => ?_, fp, ?_, nd, fun a m => ⟨hF a m, exc_in m⟩⟩
    · show exc H fp a ≠ none
      rw [exc_out (mf a m).2]
      obtain ⟨o, e⟩ := dk.there a m
      rw [e]; exact fun z => by cases z
    · have := SlotsR.ofCRs (N.length - cs.length) crs
      unfold L2.start
      rw [crs.length]
      exact this
  exact ⟨_, F0, _, R, main cs K' hS, fun γ' F' σ' H' R' _ q => k1 .non F' H' (.im .none) ⟨R'.go, [], .im .non, List.nodup_nil, fun _ m => nomatch m⟩ q, fun _ _ _ _ _ _ z => z.elim, fun _ _ _ _ _ _ z => z.elim, fun v F' H' c fin q => k1 v F' H' c fin q⟩
end
section
variable {X : Cx} {B : Bs} {e a b : Expr} {es rest : List Expr} {T Ta Tb TT : XE} {U UA : XA} {pos p : Pos} {S : FS} {k k' : Nat} {x : Str} {st : Stmt} {ps : List Str}
theorem Cal.de (C : Cal X.prog X.w X.K X.mg X.base B.dn k x st ps S) (hr : Room k' X.A) (hgd : X.A.guards = some []) (hk : k ≤ k') (hg : Gl X x) (ha : DA X B (e :: es) UA) (hdb : (x == ("__debug__" : Str)) = false := by decide)
    (he : starEach (e :: es) X.env = (false, eval e X.env) :: starEach es X.env := by rfl) (hpl : (backTo pos (starEach es X.env)).any (·.1) = false := by rfl) : DE X B (.Call (.Name x p) (e :: es) [] pos) (xCall S UA) := by
  obtain ⟨nm, f, fd, hm, F, hb, hF⟩ := C.ex
  exact de_call (pe_callG hF (hr.mono hk) hgd hg hm F.kp hb ha hdb he hpl)
theorem Cal.de0 (C : Cal X.prog X.w X.K X.mg X.base B.dn k x st ps S) (hr : Room k' X.A) (hgd : X.A.guards = some []) (hk : k ≤ k') (hg : Gl X x) (hdb : (x == ("__debug__" : Str)) = false := by decide) : DE X B (.Call (.Name x p) [] [] pos) (xCall S xNil) := by
  obtain ⟨nm, f, fd, hm, F, hb, hF⟩ := C.ex
  exact de_call0 (pe_callG0 hF (hr.mono hk) hgd hg hm F.kp hb hdb)
theorem Cal.deK {kws : List Keyword} {ks : List Str} {is : List Nat} (C : Cal X.prog X.w X.K X.mg X.base B.dn k x st ps S) (hr : Room k' X.A) (hgd : X.A.guards = some []) (hk : k ≤ k') (hg : Gl X x)
    (hb : ∀ (nm : Str) (kV doc pm : Value) (an : Option Addr) (cdv ct : Value) (ws : List Value), ws.length = ks.length → bindArgs (PySem.W.fnOf nm nm (defArgs st) (defBody st) (defScope st) .none kV doc pm an cdv ct) ⟨[], ks.zip ws⟩ = pure (ps.zip (pickV .none is ws)))
    (hlen : is.length = ps.length) (hkl : kws.length = ks.length) (ha : DK X B kws UA) (hall : (backToKw pos (keywordEach kws X.env)).all (·.1.isSome) = true := by rfl) (hks : (backToKw pos (keywordEach kws X.env)).filterMap (·.1) = ks := by rfl)
    (hdb : (x == ("__debug__" : Str)) = false := by decide) (hpl : ((backTo pos (starEach [] X.env)).any (·.1) || (backToKw pos (keywordEach kws X.env)).any (·.1.isNone)) = false := by rfl) :
    DE X B (.Call (.Name x p) [] kws pos) (xCallK S ks.length is UA) := by
  obtain ⟨nm, f, fd, hm, F, _, hF⟩ := C.ex
  have kp := F.kp
  obtain ⟨oc, od, dV, kV, doc, pm, an, cdv, ct, osl, rfl, lk, hcd, hD, hK⟩ := F.ex
  rcases hD with ⟨_, rfl⟩ | ⟨z, _⟩
  · exact de_callK (pe_callK0 (is := is) hF (hr.mono hk) hgd hg hm kp (hb nm kV doc pm an cdv ct) hlen hkl ha hall hks hdb hpl)
  · exact absurd rfl z
@[simp] def sRetV (i : Nat) : XS := fun D γ => ∃ c, γ[i]? = some c ∧ c ≠ .un ∧ D.rt c
theorem ds_retv {i : Nat} (h : PS X st (tRet (tVar i))) : DS X B st (sRetV i) := ps_imp h fun D σ H ⟨γ, F, D', R, ⟨c, e, n, q⟩, k1, k2, k3, k4⟩ => by
  obtain ⟨fp, h1, h2, h3⟩ := R.sl
  obtain ⟨v, f, g1, g2, g3, g4⟩ := h1.get e n
  exact ⟨v, g1, k4 v F H c ⟨R.go, f, g2, g4 h2, fun a m => ⟨(h3 a (g3 a m)).2, (h3 a (g3 a m)).1⟩⟩ q⟩
@[simp] def bitIs : Cell → D → Option Bool
  | .im .none, .none => some true
  | .im (.bool a), .bool b => some (decide (a = b))
  | .un, _ => none
  | _, _ => some false
@[simp] def cIs (neg : Bool) : Cell → Cell → (Cell → Prop) → Prop := fun a b K => ∃ d z, b = .im d ∧ (d = .none ∨ ∃ k, d = .bool k) ∧ bitIs a d = some z ∧ K (.im (.bool (neg ^^ z)))
def rIsA (neg : Bool) : R2 := fun x y H Q => (y = .non ∧ Q (.bl (neg ^^ decide (x = .non))) H) ∨ ∃ b, y = .bl b ∧ Q (.bl (neg ^^ decide (x = .bl b))) H
theorem op_isA : OpR X (compareOp .Is) (rIsA false) := by
  intro pins s σ H x y v u Q I rx ry h
  rcases h with ⟨e, q⟩ | ⟨b, rfl, q⟩
  · exact op_isN pins s σ H x y v u Q I rx ry ⟨e, by simpa using q⟩
  · cases (show u = Value.bool b from ry)
    have other : ∀ {v : Value}, plainIs v (.bool b) = true → v ≠ .bool b → x ≠ .bl b → wpAny (model X.prog X.w) X.A (compareOp .Is v (.bool b)) (EP X pins σ Q) X.xe s := fun h1 h2 h3 =>
      wpAny_is_other h1 h2 ⟨.bl false, H, I, rfl, by simpa [h3] using q⟩
    cases x with
    | bl a =>
      cases (show v = Value.bool a from rx)
      exact op_isBl pins s σ H (.bl a) (.bl b) _ _ Q I rfl rfl ⟨a, b, rfl, rfl, by simpa using q⟩
    | non => cases rx; exact other rfl (by intro z; cases z) (by intro z; cases z)
    | ref a => cases rx; exact other rfl (by intro z; cases z) (by intro z; cases z)
    | ty n => cases rx; exact other rfl (by intro z; cases z) (by intro z; cases z)
    | int i => obtain ⟨t, rfl⟩ := rx; exact other rfl (by intro z; cases z) (by intro z; cases z)
    | str i => obtain ⟨t, rfl⟩ := rx; exact other rfl (by intro z; cases z) (by intro z; cases z)
    | byt i => obtain ⟨t, rfl⟩ := rx; exact other rfl (by intro z; cases z) (by intro z; cases z)
    | flt i => obtain ⟨t, rfl⟩ := rx; exact other rfl (by intro z; cases z) (by intro z; cases z)
theorem op_isNotA : OpR X (compareOp .IsNot) (rIsA true) := by
  intro pins s σ H x y v u Q I rx ry h
  rcases h with ⟨e, q⟩ | ⟨b, rfl, q⟩
  · exact op_notN pins s σ H x y v u Q I rx ry ⟨e, by simpa using q⟩
  · cases (show u = Value.bool b from ry)
    have other : ∀ {v : Value}, plainIs v (.bool b) = true → v ≠ .bool b → x ≠ .bl b → wpAny (model X.prog X.w) X.A (compareOp .IsNot v (.bool b)) (EP X pins σ Q) X.xe s := fun h1 h2 h3 =>
      wpAny_isNot_other h1 h2 ⟨.bl true, H, I, rfl, by simpa [h3] using q⟩
    cases x with
    | bl a =>
      cases (show v = Value.bool a from rx)
      exact op_notBl pins s σ H (.bl a) (.bl b) _ _ Q I rfl rfl ⟨a, b, rfl, rfl, by simpa using q⟩
    | non => cases rx; exact other rfl (by intro z; cases z) (by intro z; cases z)
    | ref a => cases rx; exact other rfl (by intro z; cases z) (by intro z; cases z)
    | ty n => cases rx; exact other rfl (by intro z; cases z) (by intro z; cases z)
    | int i => obtain ⟨t, rfl⟩ := rx; exact other rfl (by intro z; cases z) (by intro z; cases z)
    | str i => obtain ⟨t, rfl⟩ := rx; exact other rfl (by intro z; cases z) (by intro z; cases z)
    | byt i => obtain ⟨t, rfl⟩ := rx; exact other rfl (by intro z; cases z) (by intro z; cases z)
    | flt i => obtain ⟨t, rfl⟩ := rx; exact other rfl (by intro z; cases z) (by intro z; cases z)
theorem bitIs_non {K : PySem.W.Frag} {da : Option Addr} {F H : Hp} {v : V} {c : Cell} {fp : List Addr} {z : Bool} (h : CR K da F H v c fp) (e : bitIs c .none = some z) : z = decide (v = .non) := by
  cases h with
  | im h => cases h <;> simp [bitIs] at e <;> subst e <;> simp
  | un => cases e
  | _ => simp [bitIs] at e; subst e; simp
theorem bitIs_bl {K : PySem.W.Frag} {da : Option Addr} {F H : Hp} {v : V} {c : Cell} {fp : List Addr} {z k : Bool} (h : CR K da F H v c fp) (e : bitIs c (.bool k) = some z) : z = decide (v = .bl k) := by
  cases h with
  | im h => cases h <;> simp [bitIs] at e <;> subst e <;> simp
  | un => cases e
  | _ => simp [bitIs] at e; subst e; simp
theorem ok_Is {K : PySem.W.Frag} {B : Bs} {neg : Bool} : R2Ok K B (rIsA neg) (cIs neg) := fun F H x y c1 c2 f1 f2 K' Q s d sz h1 h2 ⟨dd, z, e, hd, hz, q⟩ gv => by
  subst e
  rcases hd with rfl | ⟨k, rfl⟩
  · rw [h2.non]
    refine .inl ⟨rfl, ?_⟩
    rw [← bitIs_non h1 hz]
    exact gv.data s d (.bl _) q
  · rw [h2.bl]
    refine .inr ⟨k, rfl, ?_⟩
    rw [← bitIs_bl h1 hz]
    exact gv.data s d (.bl _) q
end
end DL
set_option maxHeartbeats 1000000
namespace DL
open PySem PySem.Spec PyProof.Rows L2
def inGo (G : XG) (U : XT) (T : XE) (γ : List Cell) (K : List Cell → Prop) : List D → List Cell → Prop
  | [], acc => K acc
  | d :: ds, acc => G d γ fun γ2 => U γ2 fun b => if b = true then T γ2 fun c => acc.length < sizeLine ∧ inGo G U T γ K ds (acc ++ [c]) else inGo G U T γ K ds acc
def compGo2 (G : XG) (U : XT) (W1 : XI) (G1 : XG) (U1 : XT) (T : XE) (vs1 : List Nat) (γ : List Cell) (K : Cell → Prop) : List D → List Cell → Prop
  | [], acc => K (.ow acc)
  | d :: ds, acc => G d γ fun γ2 => U γ2 fun b => if b = true then W1 γ2 fun es => inGo G1 U1 T (wipeC γ2 vs1) (fun acc' => compGo2 G U W1 G1 U1 T vs1 γ K ds acc') es acc else compGo2 G U W1 G1 U1 T vs1 γ K ds acc
@[simp] def xLC2 (W : XI) (G : XG) (U : XT) (W1 : XI) (G1 : XG) (U1 : XT) (T : XE) (vs vs1 : List Nat) : XE := fun γ K => W γ fun ds => compGo2 G U W1 G1 U1 T vs1 (wipeC γ vs) K ds []
/-- a list under way -/
def AccR (K : PySem.W.Frag) (B : Bs) (F1 H1 : Hp) (D : Addr) (F2 H2 : Hp) (acc : List Cell) : Prop :=
  ∃ vacc fp, Go B F1 H1 F2 H2 ∧ H2 D = some (.lst vacc) ∧ F2 D = none ∧ CRs K B.dd F2 H2 vacc acc fp ∧ fp.Nodup ∧ ∀ a ∈ fp, H1 a = none ∧ F2 a = none ∧ a ≠ D
section
variable {X : Cx} {B : Bs} {F1 H1 F2 H2 F3 H3 F4 H4 : Hp} {D : Addr} {acc : List Cell}
theorem AccR.start (s : Same F1 H1) (dk : DeckOk B H1) (n : H1 D = none) : AccR X.K B F1 H1 D F1 (upd H1 D (.lst [])) [] := by
  refine ⟨[], [], Go.new s dk n, upd_same, ?_, .nil, List.nodup_nil, fun _ z => nomatch z⟩
  cases e : F1 D with
  | none => rfl
  | some o => rw [s D o e] at n; cases n
theorem AccR.go (A : AccR X.K B F1 H1 D F2 H2 acc) : Go B F1 H1 F2 H2 := A.choose_spec.choose_spec.1
theorem AccR.step (dk1 : DeckOk B H1) (n : H1 D = none) (A : AccR X.K B F1 H1 D F2 H2 acc) (g : Go B F2 H2 F3 H3) : AccR X.K B F1 H1 D F3 H3 acc := by
  obtain ⟨vacc, fp, g2, hD, fD, crs, nd, fr⟩ := A
  refine ⟨vacc, fp, g2.trans g, g.hh D _ (not_ms dk1 n) hD, g.nw D fD (by rw [hD]; exact fun z => by cases z), crs.mono g.ff (fun a m o e => g.hh a o (not_ms dk1 (fr a m).1) e), nd, fun a m => ⟨(fr a m).1, g.nw a (fr a m).2.1 ?_, (fr a m).2.2⟩⟩
  obtain ⟨o, e⟩ := crs.there a m
  rw [e]; exact fun z => by cases z
theorem AccR.push {z : V} {c : Cell} {f : List Addr} (dk1 : DeckOk B H1) (n : H1 D = none) (A : AccR X.K B F1 H1 D F2 H2 acc) (g : Go B F2 H2 F3 H3) (cr : CR X.K B.dd F3 H3 z c f) (nd : f.Nodup) (fr : ∀ a ∈ f, H2 a = none ∧ F3 a = none) :
    ∃ vacc, H3 D = some (.lst vacc) ∧ vacc.length = acc.length ∧ AccR X.K B F1 H1 D F3 (upd H3 D (.lst (vacc ++ [z]))) (acc ++ [c]) := by
  obtain ⟨vacc, fp, g2, hD, fD, crs, nd2, fr2⟩ := A
  have mD : D ∉ B.ms := not_ms dk1 n
  have fD3 : F3 D = none := g.nw D fD (by rw [hD]; exact fun z => by cases z)
  have crD : ∀ a ∈ f, a ≠ D := fun a m e => by
    subst e
    have := (fr a m).1
    rw [hD] at this
    cases this
  refine ⟨vacc, g.hh D _ mD hD, crs.length, vacc ++ [z], fp ++ f, (g2.trans g).put dk1 n fD3 (fun φ z => by rw [g.hh D _ mD hD] at z; cases z), upd_same, fD3, ?_, ?_, fun a m => ?_⟩
  · refine CRs.app (crs.mono g.ff fun a m o e => ?_) (CRs.one (cr.mono (Same.refl F3) fun a m o e => ?_))
    · rw [upd_ne (fr2 a m).2.2]
      exact g.hh a o (not_ms dk1 (fr2 a m).1) e
    · rw [upd_ne (crD a m)]; exact e
  · exact app_nodup (H := H2) nd2 nd (fun a m => crs.there a m) fun a m => (fr a m).1
  · rcases List.mem_append.mp m with m | m
    · refine ⟨(fr2 a m).1, g.nw a (fr2 a m).2.1 ?_, (fr2 a m).2.2⟩
      obtain ⟨o, e⟩ := crs.there a m
      rw [e]; exact fun z => by cases z
    · exact ⟨g2.none (fr a m).1, (fr a m).2, crD a m⟩
/-- what the slots own is not D -/
def NotAt (K : PySem.W.Frag) (B : Bs) (F H : Hp) (D : Addr) (γ : List Cell) (σ : L2.St) : Prop := ∃ fp, SlotsR K B.dd F H σ γ fp ∧ fp.Nodup ∧ ∀ a ∈ fp, F a = none ∧ B.G a = none ∧ a ∉ B.ms ∧ a ≠ D
theorem NotAt.of {γ : List Cell} {σ : L2.St} (R : Rel X.K B γ F1 H1 σ) (n : H1 D = none) : NotAt X.K B F1 H1 D γ σ := by
  obtain ⟨fp, h1, h2, h3⟩ := R.sl
  refine ⟨fp, h1, h2, fun a m => ⟨(h3 a m).1, (h3 a m).2, R.fpms (h3 a m).2, fun e => ?_⟩⟩
  subst e
  obtain ⟨o, z⟩ := h1.there a m
  rw [n] at z; cases z
theorem NotAt.step {γ : List Cell} {σ : L2.St} (N : NotAt X.K B F2 H2 D γ σ) (g : Go B F2 H2 F3 H3) : NotAt X.K B F3 H3 D γ σ := by
  obtain ⟨fp, h1, h2, h3⟩ := N
  refine ⟨fp, h1.mono g.ff fun a m o e => g.hh a o (h3 a m).2.2.1 e, h2, fun a m => ⟨g.nw a (h3 a m).1 ?_, (h3 a m).2⟩⟩
  obtain ⟨o, e⟩ := h1.there a m
  rw [e]; exact fun z => by cases z
theorem NotAt.put {γ : List Cell} {σ : L2.St} (N : NotAt X.K B F2 H2 D γ σ) (o : HO) : NotAt X.K B F2 (upd H2 D o) D γ σ := by
  obtain ⟨fp, h1, h2, h3⟩ := N
  exact ⟨fp, h1.mono (Same.refl _) fun a m o e => by rw [upd_ne (h3 a m).2.2.2]; exact e, h2, h3⟩
theorem NotAt.sub {γ γ' : List Cell} {σ σ' : L2.St} (N : NotAt X.K B F2 H2 D γ σ) (s : SubS X.K B F2 H2 γ σ γ' σ') : NotAt X.K B F2 H2 D γ' σ' := by
  obtain ⟨fp, h1, h2, h3⟩ := N
  obtain ⟨fp', q1, q2, q3⟩ := s fp h1 h2
  exact ⟨fp', q1, q2, fun a m => h3 a (q3 a m)⟩
theorem NotAt.wipe {γ : List Cell} {σ : L2.St} (N : NotAt X.K B F2 H2 D γ σ) (vs : List Nat) : NotAt X.K B F2 H2 D (wipeC γ vs) (L2.wipe σ vs) := by
  obtain ⟨fp, h1, h2, h3⟩ := N
  obtain ⟨fp', q1, q2, q3⟩ := h1.wipe vs
  exact ⟨fp', q1, q3 h2, fun a m => h3 a (q2 a m)⟩
theorem NotAt.rel {γ γ0 : List Cell} {σ σ0 : L2.St} (N : NotAt X.K B F2 H2 D γ σ) (g : Go B B.F0 B.G F2 H2) (R : Rel X.K B γ0 F1 H1 σ0) : Rel X.K B γ F2 H2 σ := by
  obtain ⟨fp, h1, h2, h3⟩ := N
  refine ⟨g, fun a m => ?_, R.mg, fp, h1, h2, fun a m => ⟨(h3 a m).1, (h3 a m).2.1⟩⟩
  exact g.nw a (by
    cases e : B.F0 a with
    | none => rfl
    | some o => have := R.go.ff a o e; rw [R.mf a m] at this; cases this) (R.mg a m)
theorem lc2_read {W W1 : XI} {G G1 : XG} {U U1 : XT} {T : XE} {sl vs sl1 vs1 : List Nat} {σ : L2.St} {H F : Hp} {γ : List Cell} {Q' : Cell → Prop} {Q : VK} (hsl : ∀ i ∈ sl, i ∈ vs) (hsl1 : ∀ i ∈ sl1, i ∈ vs1) (Rl : Rel X.K B γ F H σ) (hT : xLC2 W G U W1 G1 U1 T vs vs1 γ Q')
    (k : ∀ v F' H' c fp, Go B F H F' H' → CR X.K B.dd F' H' v c fp → fp.Nodup → (∀ a ∈ fp, H a = none ∧ F' a = none) → Q' c → Q v H') :
    tLc2 (liftIB X.K B W) (liftG X.K B sl G) (liftT X.K B U) (liftIF X.K B W1) (liftG X.K B sl1 G1) (liftT X.K B U1) (liftE X.K B T) vs vs1 σ H Q := by
  refine ⟨γ, F, _, Rl, hT, fun J F1 H1 ds g1 sz1 src hq D nD => ?_⟩
  have dk1 := g1.dk
  have R1 := (Rl.step g1).wipe vs
  let go2 := compGo2 G U W1 G1 U1 T vs1 (wipeC γ vs) Q'
  refine ⟨fun i m H => m = ds.length - i ∧ i ≤ ds.length ∧ ∃ F2 acc, AccR X.K B F1 H1 D F2 H acc ∧ go2 (ds.drop i) acc, ⟨ds.length, by simp, Nat.zero_le _, F1, [], AccR.start g1.sub dk1 nD, by simpa [go2] using hq⟩, ?_⟩
  rintro i m H2 ⟨rfl, hi, F2, acc, A, go⟩
  have g2 := A.go
  by_cases hlt : i < ds.length
  · refine .inr ⟨src.go i F2 H2 g2 hlt, fun H' => i + 1 ≤ ds.length ∧ ∃ F2 acc, AccR X.K B F1 H1 D F2 H' acc ∧ go2 (ds.drop (i + 1)) acc, fun H' hN => ⟨ds.length - (i + 1), by omega, rfl, hN.1, hN.2⟩, fun x H3 y => ?_⟩
    obtain ⟨F3, d, ed, g3, hd⟩ := src.yld i F2 H2 x H3 g2 hlt y
    have edr : ds.drop i = d :: ds.drop (i + 1) := by
      obtain ⟨z, e⟩ := List.getElem?_eq_some_iff.mp ed
      rw [List.drop_eq_getElem_cons hlt, e]
    rw [edr] at go
    have g23 := g2.trans g3
    refine ⟨wipeC γ vs, F3, d, _, R1.step g23, hd, go, fun γ2 σ2 R2 kp ln ss q2 => ⟨(wipe_eq (by rw [ln]) (sl := sl) kp hsl).trans wipe_wipe, γ2, F3, _, R2, q2, fun b F4 H4 g4 q4 => ?_⟩⟩
    have g34 := g3.trans g4
    have A4 := A.step dk1 nD g34
    cases b with
    | true =>
      refine iteT ⟨γ2, F4, _, R2.step g4, (if_pos rfl).mp q4, fun J1 F5 H5 es g5 sz5 src1 hq1 => ?_⟩
      have A5 := A4.step dk1 nD g5
      have D1 : NotAt X.K B F1 H1 D (wipeC γ vs) (wipe σ vs) := .of R1 nD
      have D5 := (((D1.step g23).sub ss).step (g4.trans g5)).wipe vs1
      let in1 := inGo G1 U1 T (wipeC γ2 vs1) (fun acc' => go2 (ds.drop (i + 1)) acc')
      refine ⟨fun j m H => m = es.length - j ∧ j ≤ es.length ∧ ∃ F6 acc, AccR X.K B F1 H1 D F6 H acc ∧ Same F5 F6 ∧ NotAt X.K B F6 H D (wipeC γ2 vs1) (wipe σ2 vs1) ∧ in1 (es.drop j) acc, ⟨es.length, by simp, Nat.zero_le _, F5, acc, A5, Same.refl F5, D5, by simpa [in1] using hq1⟩, ?_⟩
      rintro j m H6 ⟨rfl, hj, F6, acc6, A6, g56, D6, goi⟩
      by_cases hlj : j < es.length
      · refine .inr ⟨src1.go j F6 H6 g56 A6.go.sub hlj, fun H' => j + 1 ≤ es.length ∧ ∃ F6 acc, AccR X.K B F1 H1 D F6 H' acc ∧ Same F5 F6 ∧ NotAt X.K B F6 H' D (wipeC γ2 vs1) (wipe σ2 vs1) ∧ in1 (es.drop (j + 1)) acc, fun H' hN => ⟨es.length - (j + 1), by omega, rfl, hN.1, hN.2⟩, fun x1 H7 y1 => ?_⟩
        obtain ⟨F7, d1, ed1, g7, hd1⟩ := src1.yld j F6 H6 x1 H7 g56 A6.go.sub A6.go.dk hlj y1
        have edr1 : es.drop j = d1 :: es.drop (j + 1) := by
          obtain ⟨z, e⟩ := List.getElem?_eq_some_iff.mp ed1
          rw [List.drop_eq_getElem_cons hlj, e]
        rw [edr1] at goi
        have g57 := g56.trans g7.ff
        refine ⟨wipeC γ2 vs1, F7, d1, _, (D6.rel (R1.go.trans A6.go) R1).step g7, hd1, goi, fun γ3 σ3 R3 kp ln _ q3 => ⟨(wipe_eq (by rw [ln]) (sl := sl1) kp hsl1).trans wipe_wipe, γ3, F7, _, R3, q3, fun b F8 H8 g8 q8 => ?_⟩⟩
        have A8 := (A6.step dk1 nD g7).step dk1 nD g8
        have g58 := g57.trans g8.ff
        cases b with
        | true =>
          refine iteT ⟨γ3, F8, _, R3.step g8, (if_pos rfl).mp q8, fun z F9 H9 c f g9 sz9 cr ndc frc ⟨hsz, q9⟩ => ?_⟩
          obtain ⟨vacc, hD, hlen, A9⟩ := A8.push dk1 nD g9 cr ndc frc
          exact ⟨vacc, hD, by rw [hlen]; exact hsz, hlj, F9, acc6 ++ [c], A9, g58.trans g9.ff, (D6.step (g7.trans (g8.trans g9))).put _, q9⟩
        | false => exact iteF ⟨hlj, F8, acc6, A8, g58, D6.step (g7.trans g8), (if_neg Bool.false_ne_true).mp q8⟩
      · have e : j = es.length := by omega
        subst e
        have q6 : go2 (ds.drop (i + 1)) acc6 := by simpa [in1, inGo] using goi
        exact .inl ⟨src1.stop F6 H6 g56 A6.go.sub, hlt, F6, acc6, A6, q6⟩
    | false => exact iteF ⟨hlt, F4, acc, A4, (if_neg Bool.false_ne_true).mp q4⟩
  · have e : i = ds.length := by omega
    subst e
    have go' : Q' (.ow acc) := by simpa [go2, compGo2] using go
    obtain ⟨vacc, fp, g2, hD, fD, crs, nd, fr⟩ := A
    refine .inl ⟨src.stop F2 H2 g2, k (.ref D) F2 H2 (.ow acc) (D :: fp) (g1.trans g2) (.ow hD crs) (List.nodup_cons.mpr ⟨fun m => (fr D m).2.2 rfl, nd⟩) (fun a m => ?_) go'⟩
    rcases List.mem_cons.mp m with e | m
    · subst e; exact ⟨g1.none nD, fD⟩
    · exact ⟨g1.none (fr a m).1, (fr a m).2.1⟩
theorem de_lc2 {e : Expr} {W W1 : XI} {G G1 : XG} {U U1 : XT} {T : XE} {sl vs sl1 vs1 : List Nat} (h : PE X e (tLc2 (liftIB X.K B W) (liftG X.K B sl G) (liftT X.K B U) (liftIF X.K B W1) (liftG X.K B sl1 G1) (liftT X.K B U1) (liftE X.K B T) vs vs1)) (hsl : ∀ i ∈ sl, i ∈ vs := by decide) (hsl1 : ∀ i ∈ sl1, i ∈ vs1 := by decide) : DE X B e (xLC2 W G U W1 G1 U1 T vs vs1) :=
  pe_imp h fun σ H Q ⟨γ, F, Q', Rl, hT, k⟩ _ => lc2_read hsl hsl1 Rl hT fun v F' H' c fp g cr nd fr q sz => k v F' H' c fp g sz cr nd fr q
theorem ds_setLc2 {st : Stmt} {i : Nat} {W W1 : XI} {G G1 : XG} {U U1 : XT} {T : XE} {sl vs sl1 vs1 : List Nat} (h : PS X st (tAsg (tLc2 (liftIB X.K B W) (liftG X.K B sl G) (liftT X.K B U) (liftIF X.K B W1) (liftG X.K B sl1 G1) (liftT X.K B U1) (liftE X.K B T) vs vs1) (gName i))) (hsl : ∀ i ∈ sl, i ∈ vs := by decide) (hsl1 : ∀ i ∈ sl1, i ∈ vs1 := by decide) :
    DS X B st (sSet i (xLC2 W G U W1 G1 U1 T vs vs1)) := ps_imp h fun D σ H ⟨γ, F, D', R, hT, k1, k2, k3, k4⟩ =>
  lc2_read hsl hsl1 R hT fun v F' H' c fp g cr nd fr q => k1 _ F' _ H' (R.set g cr nd fr i) g.ff q
end
end DL
set_option maxHeartbeats 1000000
namespace DL
open PySem PySem.Spec PyProof.Rows L2
theorem rm1 {k : Nat} {A : Around} (r : Room k A) : A.units + 1 < cLine := by have := r.un; omega
theorem rm64 {k : Nat} {A : Around} (r : Room k A) : A.units + 64 < cLine := by have := r.un; omega
theorem rm65 {k : Nat} {A : Around} (r : Room k A) : A.units + 65 < cLine := by have := r.un; omega
section
variable {X : Cx} {B : Bs} {a b e : Expr} {es : List Expr} {T Ta Tb : XE} {U UA : XA} {pos : Pos}
theorem de_globI {x : Str} {i : Int} (hg : Gl X x) (hm : ∃ t, X.mg x = some (.int i t)) (hdb : (x == ("__debug__" : Str)) = false := by decide) : DE X B (.Name x pos) (xC (.int i)) := by
  obtain ⟨t, h⟩ := hm
  exact de_glob (v := .int i) hg h ⟨t, rfl⟩ (fun _ => .int i) hdb
theorem de_globS {x z : Str} (hg : Gl X x) (hm : ∃ t, X.mg x = some (.str z t)) (hdb : (x == ("__debug__" : Str)) = false := by decide) : DE X B (.Name x pos) (xC (.str z)) := by
  obtain ⟨t, h⟩ := hm
  exact de_glob (v := .str z) hg h ⟨t, rfl⟩ (fun _ => .str z) hdb
theorem dp_strs {K : PySem.W.Frag} {H : Hp} : ∀ zs : List Str, DpAll K H (zs.map V.str) (zs.map PyData.str)
  | [] => .nil
  | z :: zs => .cons (.str z) (dp_strs zs)
theorem de_globT {x : Str} {zs : List Str} (hg : Gl X x) (hm : ∃ a, X.mg x = some (.ref a) ∧ ∀ H, SqT X.K H a (zs.map V.str)) (hdb : (x == ("__debug__" : Str)) = false := by decide) : DE X B (.Name x pos) (xC (.tuple (zs.map .str))) := by
  obtain ⟨a, h, t⟩ := hm
  exact de_glob (v := .ref a) hg h rfl (fun F => .tup (t F) (dp_strs zs)) hdb
@[simp] def cNeg : Cell → (Cell → Prop) → Prop := fun a K => ∃ i, a = .im (.int i) ∧ K (.im (.int (-i)))
theorem ok_Neg {K : PySem.W.Frag} : R1Ok K B (rU fun i => .int (-i)) cNeg := fun F H x c1 f1 K' Q s d sz h1 ⟨i, e1, q⟩ gv => by
  subst e1
  rw [h1.int]
  exact ⟨i, rfl, gv.data s d (.int _) q⟩
@[simp] def cRep : Cell → Cell → (Cell → Prop) → Prop := fun a b K => ∃ (xs : List D) (k : Int), a = .ow (xs.map .im) ∧ b = .im (.int k) ∧ -(2 ^ 63) ≤ k ∧ k < 2 ^ 63 ∧ xs.length * k.toNat ≤ sizeLine ∧ K (.ow (((List.replicate k.toNat xs).flatten).map .im))
theorem DpAll.rep {K : PySem.W.Frag} {H : Hp} {vs : List V} {ds : List D} (h : DpAll K H vs ds) : ∀ n, DpAll K H (List.replicate n vs).flatten (List.replicate n ds).flatten
  | 0 => .nil
  | n + 1 => by
    rw [List.replicate_succ, List.replicate_succ, List.flatten_cons, List.flatten_cons]
    exact DpAll.app h (DpAll.rep h n)
theorem ok_Rep {K : PySem.W.Frag} : R2Ok K B rRep cRep := fun F H x y c1 c2 f1 f2 K' Q s d sz h1 h2 ⟨xs, k, e1, e2, k1, k2, hz, q⟩ gv => by
  subst e1 e2
  rw [h2.int]
  cases h1 with
  | ow t1 s1 =>
    obtain ⟨a1, _⟩ := CRs.toDp s1
    exact ⟨_, k, _, rfl, rfl, t1, k1, k2, by rw [DpAll.length a1]; exact hz, fun p np => gv.lstD s d (DpAll.rep a1 _) q np⟩
end
end DL
set_option maxHeartbeats 1000000
namespace DL
open PySem PySem.Spec PyProof.Rows L2
mutual
/-- d < e -/
def ltB : D → D → Bool
  | .int i, .int j => decide (i < j)
  | .str a, .str b => decide (a.cps.toList < b.cps.toList)
  | .tuple xs, .tuple ys => ltBs xs ys
  | _, _ => false
def ltBs : List D → List D → Bool
  | x :: xs, y :: ys => if PyData.eqv x y = true then ltBs xs ys else ltB x y
  | [], _ :: _ => true
  | _, [] => false
end
mutual
/-- .. can be asked -/
def ordB : D → D → Bool
  | .int _, .int _ => true
  | .str _, .str _ => true
  | .tuple xs, .tuple ys => ordBs xs ys
  | _, _ => false
def ordBs : List D → List D → Bool
  | x :: xs, y :: ys => (PyData.eqv x y || ordB x y) && ordBs xs ys
  | [], _ => true
  | _ :: _, [] => true
end
open Ob (RcOp lexAt)
def eqAtN (xs ys : List D) (j : Nat) : Bool := match xs[j]?, ys[j]? with
  | some x, some y => PyData.eqv x y
  | _, _ => true
def ltAtN (xs ys : List D) (j : Nat) : Bool := match xs[j]?, ys[j]? with
  | some x, some y => ltB x y
  | _, _ => true
theorem lexAt_data : ∀ (xs ys : List D) (i : Nat) (e r : Nat → Bool), (∀ j, e (i + j) = eqAtN xs ys j) → (∀ j, r (i + j) = ltAtN xs ys j) → lexAt e r (decide (xs.length < ys.length)) i (min xs.length ys.length) = ltBs xs ys
  | [], ys, i, e, r, _, _ => by
    cases ys with
    | nil => simp [lexAt, ltBs]
    | cons y ys => simp [lexAt, ltBs]
  | x :: xs, [], i, e, r, _, _ => by simp [lexAt, ltBs]
  | x :: xs, y :: ys, i, e, r, he, hr => by
    have e0 : e i = PyData.eqv x y := by simpa [eqAtN] using he 0
    have r0 : r i = ltB x y := by simpa [ltAtN] using hr 0
    have ih := lexAt_data xs ys (i + 1) e r (fun j => by rw [Nat.add_assoc, Nat.add_comm 1 j, he (j + 1)]; simp [eqAtN]) (fun j => by rw [Nat.add_assoc, Nat.add_comm 1 j, hr (j + 1)]; simp [ltAtN])
    have hm : min (x :: xs).length (y :: ys).length = min xs.length ys.length + 1 := by simp only [List.length_cons]; omega
    have hd : decide ((x :: xs).length < (y :: ys).length) = decide (xs.length < ys.length) := by simp
    rw [hm, hd]
    show (if e i = true then lexAt e r (decide (xs.length < ys.length)) (i + 1) (min xs.length ys.length) else r i) = ltBs (x :: xs) (y :: ys)
    rw [e0, r0, ih]
    simp only [ltBs]
theorem readsAll_len {h : Heap} : ∀ {vs : List Value} {ds : List D} {as : List Addr}, ReadsAll h vs ds as → vs.length = ds.length
  | _, _, _, .nil => rfl
  | _, _, _, .cons _ hs => by rw [List.length_cons, List.length_cons, readsAll_len hs]
theorem readsAll_at {h : Heap} : ∀ {vs : List Value} {ds : List D} {as : List Addr} (j : Nat), ReadsAll h vs ds as → ∀ (h1 : j < vs.length) (h2 : j < ds.length), ∃ bs, Reads h vs[j] ds[j] bs
  | _, _, _, j, .nil, h1, _ => absurd h1 (Nat.not_lt_zero _)
  | _, _, _, 0, .cons r _, _, _ => ⟨_, r⟩
  | _, _, _, j + 1, .cons _ rs, h1, h2 => by simpa using readsAll_at j rs (by simpa using h1) (by simpa using h2)
theorem canLay_at : ∀ {ds : List D} (j : Nat) (h : j < ds.length), PyData.canLayAll0 ds = true → ds[j].canLay0 = true
  | [], j, h, _ => absurd h (Nat.not_lt_zero _)
  | d :: ds, 0, _, c => by simp only [PyData.canLayAll0, Bool.and_eq_true] at c; exact c.1
  | d :: ds, j + 1, h, c => by simp only [PyData.canLayAll0, Bool.and_eq_true] at c; simpa using canLay_at j (by simpa using h) c.2
theorem depth_at : ∀ {ds : List D} (j : Nat) (h : j < ds.length), ds[j].depth ≤ PyData.depthAll ds
  | [], j, h => absurd h (Nat.not_lt_zero _)
  | d :: ds, 0, _ => by simp only [PyData.depthAll]; exact Nat.le_max_left _ _
  | d :: ds, j + 1, h => by
    have := depth_at (ds := ds) j (by simpa using h)
    simp only [PyData.depthAll]
    exact Nat.le_trans (by simpa using this) (Nat.le_max_right _ _)
theorem ordBs_at : ∀ {xs ys : List D} (j : Nat) (h1 : j < xs.length) (h2 : j < ys.length), ordBs xs ys = true → PyData.eqv xs[j] ys[j] = false → ordB xs[j] ys[j] = true
  | [], _, j, h, _, _, _ => absurd h (Nat.not_lt_zero _)
  | _ :: _, [], j, _, h, _, _ => absurd h (Nat.not_lt_zero _)
  | x :: xs, y :: ys, 0, _, _, c, e => by
    simp only [ordBs, Bool.and_eq_true, Bool.or_eq_true] at c
    simp only [List.getElem_cons_zero] at e ⊢
    rcases c.1 with z | z
    · rw [z] at e; cases e
    · exact z
  | x :: xs, y :: ys, j + 1, h1, h2, c, e => by
    simp only [ordBs, Bool.and_eq_true] at c
    simpa using ordBs_at (xs := xs) (ys := ys) j (by simpa using h1) (by simpa using h2) c.2 (by simpa using e)
theorem in1_units (A : Around) : A.in1.units = A.units + 1 := rfl
theorem rc_lt : ∀ (n : Nat) (d e : D) (A : Around) (s : Shared) (u v : Value) (as bs : List Addr), d.depth ≤ n → Reads s.heap u d as → Reads s.heap v e bs → d.canLay0 = true → e.canLay0 = true → ordB d e = true → A.units + n < cLine → RcOp .Lt A s u v (ltB d e) := by
  intro n
  induction n with
  | zero =>
    intro d e A s u v as bs hn rd re c1 c2 o hu
    cases d <;> cases e <;> simp only [ordB, Bool.false_eq_true] at o
    · cases rd; cases re
      simp only [ltB]
      exact RcOp.lt_int _ _ _ _
    · cases rd; cases re
      simp only [ltB]
      exact fun _ _ _ _ h => PyProof.Rows.lt_str h
    · simp [PyData.depth] at hn
  | succ n ih =>
    intro d e A s u v as bs hn rd re c1 c2 o hu
    cases d <;> cases e <;> simp only [ordB, Bool.false_eq_true] at o
    · cases rd; cases re
      simp only [ltB]
      exact RcOp.lt_int _ _ _ _
    · cases rd; cases re
      simp only [ltB]
      exact fun _ _ _ _ h => PyProof.Rows.lt_str h
    · rename_i xs ys
      cases rd with
      | @tuple a o1 vs n1 _ _ ho1 hc1 hd1 r1 =>
        cases re with
        | @tuple b o2 ws n2 _ _ ho2 hc2 hd2 r2 =>
          have l1 : vs.size = xs.length := by rw [← readsAll_len r1, Array.length_toList]
          have l2 : ws.size = ys.length := by rw [← readsAll_len r2, Array.length_toList]
          have cx : PyData.canLayAll0 xs = true := by simpa [PyData.canLay0] using c1
          have cy : PyData.canLayAll0 ys = true := by simpa [PyData.canLay0] using c2
          have hdp : PyData.depthAll xs ≤ n := by simpa [PyData.depth] using hn
          have key := RcOp.tuples_lt (A := A) (s := s) (l := a) (b := b) (items := vs) (items2 := ws) (e := eqAtN xs ys) (r := ltAtN xs ys) ⟨_, ho1, hc1, _, hd1⟩ ⟨_, ho2, hc2, _, hd2⟩ (by omega) (fun j h1 h2 => ?_) (fun j h1 h2 hej => ?_)
          · rw [l1, l2, lexAt_data xs ys 0 (eqAtN xs ys) (ltAtN xs ys) (fun j => by rw [Nat.zero_add]) (fun j => by rw [Nat.zero_add])] at key
            simpa only [ltB] using key
          · have k1 : j < xs.length := l1 ▸ h1
            have k2 : j < ys.length := l2 ▸ h2
            obtain ⟨b1, q1⟩ := readsAll_at j r1 (by simpa using h1) k1
            obtain ⟨b2, q2⟩ := readsAll_at j r2 (by simpa using h2) k2
            have e1 : eqAtN xs ys j = PyData.eqv xs[j] ys[j] := by simp [eqAtN, k1, k2]
            rw [e1]
            have hdj := depth_at j k1
            refine SeqAt.eqAt_reads xs[j] ys[j] A.in1 s vs[j] ws[j] b1 b2 (by simpa using q1) (by simpa using q2) (canLay_at j k1 cx) (canLay_at j k2 cy) ?_
            rw [in1_units]
            have : min xs[j].depth ys[j].depth ≤ xs[j].depth := Nat.min_le_left _ _
            omega
          · have k1 : j < xs.length := l1 ▸ h1
            have k2 : j < ys.length := l2 ▸ h2
            obtain ⟨b1, q1⟩ := readsAll_at j r1 (by simpa using h1) k1
            obtain ⟨b2, q2⟩ := readsAll_at j r2 (by simpa using h2) k2
            have e1 : eqAtN xs ys j = PyData.eqv xs[j] ys[j] := by simp [eqAtN, k1, k2]
            have e2 : ltAtN xs ys j = ltB xs[j] ys[j] := by simp [ltAtN, k1, k2]
            rw [e1] at hej
            rw [e2]
            have hdj := depth_at j k1
            exact ih xs[j] ys[j] A.in1 s vs[j] ws[j] b1 b2 (by omega) (by simpa using q1) (by simpa using q2) (canLay_at j k1 cx) (canLay_at j k2 cy) (ordBs_at j k1 k2 o hej) (by rw [in1_units]; omega)
def rLtD (K : PySem.W.Frag) : R2 := fun x y H Q => ∃ d e, Dp K H x d ∧ Dp K H y e ∧ SeqAt.shaped d = true ∧ SeqAt.shaped e = true ∧ ordB d e = true ∧ Q (.bl (ltB d e)) H
theorem op_ltD {X : Cx} (hu : X.A.units + 65 < cLine) : OpR X (compareOp .Lt) (rLtD X.K) := by
  intro pins s σ H x y v u Q I rx ry h
  obtain ⟨d, e, hd, he, sd, se, o, q⟩ := h
  obtain ⟨as, r1⟩ := Dp.reads I d x v hd rx
  obtain ⟨bs, r2⟩ := Dp.reads I e y u he ry
  exact rc_lt 64 d e X.A s v u as bs (SeqAt.depth_of_shaped sd) r1 r2 (SeqAt.canLay_of_shaped sd) (SeqAt.canLay_of_shaped se) o (by omega) _ _ _ _ ⟨.bl _, H, I, rfl, q⟩
@[simp] def cLtD : Cell → Cell → (Cell → Prop) → Prop := fun a b K => ∃ d e, toD a = some d ∧ toD b = some e ∧ SeqAt.shaped d = true ∧ SeqAt.shaped e = true ∧ ordB d e = true ∧ K (.im (.bool (ltB d e)))
theorem ok_LtD {K : PySem.W.Frag} {B : Bs} : R2Ok K B (rLtD K) cLtD := fun F H x y c1 c2 f1 f2 K' Q s d sz h1 h2 ⟨d1, d2, e1, e2, s1, s2, o, q⟩ gv =>
  ⟨d1, d2, h1.toH s e1, h2.toH s e2, s1, s2, o, gv.data s d (.bl _) q⟩
end DL
set_option maxHeartbeats 1000000
namespace DL
open PySem PySem.Spec PyProof.Rows L2
mutual
theorem reads_keep {h h' : Heap} (k : ∀ b o, h.get? b = some o → h'.get? b = some o) : ∀ {v : Value} {d : D} {as : List Addr}, Reads h v d as → Reads h' v d as
  | _, _, _, .none => .none
  | _, _, _, .bool b => .bool b
  | _, _, _, .int i t => .int i t
  | _, _, _, .str x t => .str x t
  | _, _, _, .list h1 h2 h3 h4 => .list (k _ _ h1) h2 h3 (readsAll_keep k h4)
  | _, _, _, .tuple h1 h2 h3 h4 => .tuple (k _ _ h1) h2 h3 (readsAll_keep k h4)
  | _, _, _, .dict h1 h2 h3 h4 h5 => .dict (k _ _ h1) h2 h3 (readsAll_keep k h4) (readsAll_keep k h5)
theorem readsAll_keep {h h' : Heap} (k : ∀ b o, h.get? b = some o → h'.get? b = some o) : ∀ {v : List Value} {d : List D} {as : List Addr}, ReadsAll h v d as → ReadsAll h' v d as
  | _, _, _, .nil => .nil
  | _, _, _, .cons h1 h2 => .cons (reads_keep k h1) (readsAll_keep k h2)
end
open PySem.W (EachIs alike dataLt AllAlike Sortable dataLe dataKind SortsAt)
theorem each_reads {h : Heap} : ∀ {vs : List Value} {ds : List D} {as : List Addr}, ReadsAll h vs ds as → EachIs (fun v d => ∃ as, Reads h v d as) vs ds
  | _, _, _, .nil => .nil
  | _, _, _, .cons r rs => .cons ⟨_, r⟩ (each_reads rs)
theorem each_vals {K : PySem.W.Frag} {H : Hp} : ∀ {xs : List V} {vs : List Value} {ds : List D}, Vals xs vs → DpAll K H xs ds → EachIs (fun v d => ∃ x, RelV x v ∧ Dp K H x d) vs ds
  | _, _, _, .nil, .nil => .nil
  | _, _, _, .cons r rs, .cons d ds => .cons ⟨_, r, d⟩ (each_vals rs ds)
theorem vals_each {K : PySem.W.Frag} {H : Hp} : ∀ {vs : List Value} {ds : List D}, EachIs (fun v d => ∃ x, RelV x v ∧ Dp K H x d) vs ds → ∃ xs, Vals xs vs ∧ DpAll K H xs ds
  | _, _, .nil => ⟨[], .nil, .nil⟩
  | _, _, .cons ⟨x, r, d⟩ t => by
    obtain ⟨xs, h1, h2⟩ := vals_each t
    exact ⟨x :: xs, .cons r h1, .cons d h2⟩
/-- ascending -/
def sortD (ds : List D) : List D := ds.mergeSort (dataLe false id)
def rSortedDD (K : PySem.W.Frag) : List V → Hp → VK → Prop := fun vs H Q => ∃ (a : Addr) (xs : List V) (ds : List D) (F : Hp), vs = [V.ref a] ∧ SqL K H a xs ∧ Same F H ∧ DpAll K F xs ds ∧ AllAlike ds ∧ Sortable ds ∧ (∀ d ∈ ds, d.depth ≤ 60) ∧
  ∀ ys p, DpAll K F ys (sortD ds) → H p = none → Q (.ref p) (upd H p (.lst ys))
theorem cr_sortedDD {X : Cx} (hu : X.A.units + 65 < cLine) : CallR X (.builtin "sorted") (rSortedDD X.K) := by
  intro pins s σ H vs us Q I r h
  obtain ⟨a, xs, ds, F, rfl, hs, sF, hdF, hal, hsk, hdp, q⟩ := h
  have hd := DpAll.mono sF hdF
  obtain ⟨its, rv, hl, hz⟩ := I.list hs
  obtain ⟨u, rfl, ru⟩ := vals1 r
  obtain rfl : u = Value.ref a := ru
  obtain ⟨as, ra⟩ := Dp.readsAll I ds xs its hd rv
  have e0 : ∀ b o, s.heap.get? b = some o → (PySem.W.sortingHeap (PySem.W.copyHeap s.heap its) (s.heap.objs.size + 1) its).get? b = some o := fun b o e => PySem.W.sorting_copy_old e
  have e1 := each_reads (readsAll_keep e0 ra)
  have hz' : its.length ≤ sizeLine := by rw [← rv.length]; exact hz
  refine PySem.W.sorted_vals (κ := dataKind (PySem.W.sortingHeap (PySem.W.copyHeap s.heap its) (s.heap.objs.size + 1) its) ds) hl.isList (SortsAt.data e1 hal hsk fun d m => ?_) hz' ?_
  · have := hdp d m
    show X.A.units + 1 + 1 + d.depth < cLine
    omega
  · have e2 : EachIs (fun v d => ∃ x, RelV x v ∧ Dp X.K F x d) (PySem.W.sortVals (dataKind (PySem.W.sortingHeap (PySem.W.copyHeap s.heap its) (s.heap.objs.size + 1) its) ds) false its its) (sortD ds) :=
      PySem.W.sortVals_each (κ := dataKind (PySem.W.sortingHeap (PySem.W.copyHeap s.heap its) (s.heap.objs.size + 1) its) ds) (rev := false) (fun b => PySem.W.keyToks b) (each_vals rv hdF) (PySem.W.each_keys hal e1)
    obtain ⟨ys, v1, v2⟩ := vals_each e2
    obtain ⟨n, hn⟩ := sortedAll_at s.heap its (PySem.W.sortVals (dataKind (PySem.W.sortingHeap (PySem.W.copyHeap s.heap its) (s.heap.objs.size + 1) its) ds) false its its).toArray
    have hn0 : H (s.heap.objs.size + 1) = none := I.hok.fresh (Nat.le_succ _)
    refine ⟨.ref (s.heap.objs.size + 1), upd H (s.heap.objs.size + 1) (.lst ys), I.laid (t' := s.toks) (fun b o e => sortedAll_old e) (Nat.le_succ _) ⟨?_, _, n, v1, hn⟩, rfl, q ys _ v2 hn0⟩
    have l1 := DpAll.length v2
    have l2 := DpAll.length hd
    have l3 : (sortD ds).length = ds.length := List.length_mergeSort ..
    show ys.length ≤ sizeLine
    omega
@[simp] def cSorted : List Cell → (Cell → Prop) → Prop := fun cs Q => ∃ c ds, cs = [c] ∧ lstF c = some ds ∧ AllAlike ds ∧ Sortable ds ∧ (∀ d ∈ ds, d.depth ≤ 60) ∧ Q (.ow ((sortD ds).map .im))
theorem ok_sorted {K : PySem.W.Frag} {B : Bs} : RAOk K B (rSortedDD K) cSorted := fun F H vs cs fp K' Q s d sz crs fr ⟨c, ds, e, e2, h1, h2, h3, q⟩ g => by
  subst e
  obtain ⟨v, rfl, h⟩ := crs_one crs
  obtain ⟨a, xs, rfl, t, al⟩ := h.frl s e2
  exact ⟨a, xs, ds, F, rfl, sq_of s t, s, al, h1, h2, h3, fun ys p hy np => g.lstD s d hy q np⟩
end DL
set_option maxHeartbeats 1000000
namespace DL
open PySem PySem.Spec PyProof.Rows L2
section
variable {X : Cx} {B : Bs} {a b e : Expr} {es : List Expr} {T Ta Tb TT TI' : XE} {U UA : XA} {pos : Pos} {st : Stmt}
@[simp] def xDNewK : XE := fun _ K => K (.dk [] [])
@[simp] def xDNewT : XE := fun _ K => K (.dt [] [])
theorem new_fr {F H : Hp} {p : Addr} (s : Same F H) (np : H p = none) : ∀ a ∈ [p], H a = none ∧ F a = none := fun a m => by
  have z : a = p := by simpa using m
  subst z
  refine ⟨np, ?_⟩
  cases e : F a with
  | none => rfl
  | some o => rw [s a o e] at np; cases np
theorem de_dnewK : DE X B (.Dict [] [] pos) xDNewK := pe_imp pe_dnewK fun σ H Q ⟨γ, F, Q', R, hT, k⟩ _ => fun p np sz =>
  k (.ref p) F _ (.dk [] []) [p] (Go.new R.sub R.dk np) sz (CR.dk (ks := []) (vs := []) (fp := []) upd_same rfl .nil) (by simp) (new_fr R.sub np) hT
theorem de_dnewT : DE X B (.Dict [] [] pos) xDNewT := pe_imp pe_dnewT fun σ H Q ⟨γ, F, Q', R, hT, k⟩ _ => fun p np sz =>
  k (.ref p) F _ (.dt [] []) [p] (Go.new R.sub R.dk np) sz (CR.dt (ks := []) (vs := []) (fp := []) upd_same rfl .nil) (by simp) (new_fr R.sub np) hT
section
variable {κ : Type} [DecidableEq κ]
def putC (ks : List κ) (cs : List Cell) (k : κ) (c : Cell) : List κ × List Cell := if k ∈ ks then (ks, cs.set (ks.idxOf k) c) else (ks ++ [k], cs ++ [c])
theorem any_mem {ks : List κ} {vs : List V} {k : κ} (l : ks.length = vs.length) : ((ks.zip vs).any fun kv => decide (kv.1 = k)) = decide (k ∈ ks) := by
  induction ks generalizing vs with
  | nil => simp
  | cons a ks ih =>
    cases vs with
    | nil => simp at l
    | cons v vs =>
      rw [List.zip_cons_cons, List.any_cons, ih (by simpa using l)]
      by_cases h : a = k
      · subst h; simp
      · have h' : ¬ k = a := fun z => h z.symm
        simp [h, h']
theorem map_put {ks : List κ} {vs : List V} {k : κ} {v : V} (l : ks.length = vs.length) (nd : ks.Nodup) : (ks.zip vs).map (fun kv => if kv.1 = k then (kv.1, v) else kv) = ks.zip (vs.set (ks.idxOf k) v) := by
  induction ks generalizing vs with
  | nil => simp
  | cons a ks ih =>
    cases vs with
    | nil => simp at l
    | cons w vs =>
      obtain ⟨n1, n2⟩ := List.nodup_cons.mp nd
      rw [List.zip_cons_cons, List.map_cons]
      by_cases h : a = k
      · subst h
        have e : (ks.zip vs).map (fun kv => if kv.1 = a then (kv.1, v) else kv) = ks.zip vs := by
          conv => rhs; rw [← List.map_id (ks.zip vs)]
          refine List.map_congr_left fun p m => ?_
          have : p.1 ∈ ks := (List.of_mem_zip m).1
          have hne : ¬ p.1 = a := fun z => n1 (by rw [← z]; exact this)
          rw [if_neg hne]; rfl
        rw [e]
        simp
      · rw [ih (by simpa using l) n2]
        have hb : (a == k) = false := by simpa using h
        simp [List.idxOf_cons, hb, h]
theorem put_cr {K : PySem.W.Frag} {da : Option Addr} {F H : Hp} {v : V} {c : Cell} {f : List Addr} {ks : List κ} {vs : List V} {cs : List Cell} {fp : List Addr} {k : κ} (crs : CRs K da F H vs cs fp) (l : ks.length = vs.length) (nd : ks.Nodup) (cr : CR K da F H v c f) :
    ∃ vs' fp', putK (ks.zip vs) k v = (putC ks cs k c).1.zip vs' ∧ (putC ks cs k c).1.length = vs'.length ∧ CRs K da F H vs' (putC ks cs k c).2 fp' ∧ (∀ a ∈ fp', a ∈ f ∨ a ∈ fp) ∧ ((f ++ fp).Nodup → fp'.Nodup) := by
  unfold putK putC
  rw [any_mem l]
  by_cases h : k ∈ ks
  · simp only [h, decide_true, if_true]
    obtain ⟨fp', h1, h2, h3⟩ := CRs.set cr (ks.idxOf k) crs
    exact ⟨_, fp', map_put l nd, by rw [List.length_set]; exact l, h1, h2, h3⟩
  · simp only [h, decide_false, if_false, Bool.false_eq_true]
    refine ⟨vs ++ [v], fp ++ f, ?_, by simp [l], CRs.app crs (CRs.one cr), fun a m => (List.mem_append.mp m).symm, fun n => ?_⟩
    · rw [List.zip_append l]; rfl
    · obtain ⟨n1, n2, n3⟩ := List.nodup_append.mp n
      exact List.nodup_append.mpr ⟨n2, n1, fun a ha b hb e => n3 b hb a ha e.symm⟩
end
@[simp] def sDPutK (i : Nat) (TI TT : XE) : XS := fun E γ => TT γ fun c => ∃ ks cs, γ[i]? = some (.dk ks cs) ∧ TI γ fun kc => ∃ d k, kc = .im d ∧ keyD d = some k ∧ ks.Nodup ∧ ks.length < sizeLine ∧ E.nx (γ.set i (.dk (putC ks cs k c).1 (putC ks cs k c).2))
theorem ds_dputK {i : Nat} (h : PS X st (sDPut (tVar i) (liftR X.K B TI') (liftE X.K B TT))) : DS X B st (sDPutK i TI' TT) :=
  ps_imp h fun Dd σ H ⟨γ, F, D', R, hT, k1, k2, k3, k4⟩ => ⟨γ, F, _, R, hT, fun y F1 H1 c f1 g sz cr nd fr ⟨ks, cs, e, hI⟩ => by
    have R1 := R.step g
    obtain ⟨v, f, h1, h2, h3, h4⟩ := R1.get e (by intro z; cases z)
    refine ⟨v, h1, γ, F1, _, R1, hI, fun kv F2 H2 ck fk g2 szk crk frk ⟨d, k, ek, hk, ndk, hlk, q⟩ => ?_⟩
    subst ek
    obtain ⟨v2, f2, q1, q2, q3, q4, q5⟩ := R.change (g.trans g2) e (by intro z; cases z)
    rw [h1] at q1; cases q1
    have hkv : kv = kV k := by cases crk with | im hd => exact keyD_dp hd hk
    subst hkv
    cases q2 with
    | @dk l _ vs2 _ fp2 t2 l2 al2 =>
      have fr2 : ∀ a ∈ f1, H a = none ∧ F2 a = none := fun a m => ⟨(fr a m).1, g2.nw a (fr a m).2 (by
        obtain ⟨o, z⟩ := cr.there a m
        rw [z]; exact fun z => by cases z)⟩
      have cr2 : CR X.K B.dd F2 H2 y c f1 := cr.mono g2.ff fun a m o eo => g2.hh a o (not_ms R.dk (fr a m).1) eo
      have na : ∀ a ∈ f1, a ∉ l :: fp2 := fun a m z => (q4 a z).1 (fr a m).1
      obtain ⟨vs', fp', w0, wl, w1, w2, w3⟩ := put_cr (k := k) al2 l2 ndk cr2
      refine ⟨l, _, rfl, .inl ⟨_, k, t2, rfl, ?_, rfl⟩, ?_⟩
      · rw [List.length_zip, ← l2, Nat.min_self]; exact hlk
      rw [w0]
      have nl : l ∉ fp' := fun m => by
        rcases w2 _ m with m | m
        · exact na _ m List.mem_cons_self
        · exact (List.nodup_cons.mp q3).1 m
      refine k1 _ F2 σ _ (q5 _ _ (l :: fp') (fun a nf _ => upd_ne fun z => nf (by rw [z]; exact List.mem_cons_self)) (.dk upd_same wl (w1.mono (Same.refl _) fun a m o eo => ?_)) ?_ fun a m => ?_) (g.trans g2).ff q
      · rw [upd_ne fun z => nl (by rw [← z]; exact m)]; exact eo
      · refine List.nodup_cons.mpr ⟨nl, w3 (List.nodup_append.mpr ⟨nd, (List.nodup_cons.mp q3).2, fun a ha b hb e => ?_⟩)⟩
        subst e; exact na a ha (List.mem_cons_of_mem _ hb)
      · rcases List.mem_cons.mp m with z | m
        · exact .inl (by rw [z]; exact List.mem_cons_self)
        · rcases w2 a m with m | m
          · exact .inr (fr2 a m)
          · exact .inl (List.mem_cons_of_mem _ m)⟩
/-- .. by a key that is a tuple display -/
@[simp] def sDPutT (i : Nat) (UA : XA) (TT : XE) : XS := fun E γ => TT γ fun c => ∃ ks cs, γ[i]? = some (.dt ks cs) ∧ UA γ fun kcs => ∃ ds k, kcs = ds.map .im ∧ keyDs ds = some k ∧ ds.length ≤ sizeLine ∧ ks.Nodup ∧ ks.length < sizeLine ∧ E.nx (γ.set i (.dt (putC ks cs k c).1 (putC ks cs k c).2))
theorem ds_dputT {i : Nat} (h : PS X st (sDPut (tVar i) (tTup (liftA X.K B UA)) (liftE X.K B TT))) : DS X B st (sDPutT i UA TT) :=
  ps_imp h fun Dd σ H ⟨γ, F, D', R, hT, k1, k2, k3, k4⟩ => ⟨γ, F, _, R, hT, fun y F1 H1 c f1 g sz cr nd fr ⟨ks, cs, e, hI⟩ => by
    have R1 := R.step g
    obtain ⟨v, f, h1, h2, h3, h4⟩ := R1.get e (by intro z; cases z)
    refine ⟨v, h1, γ, F1, _, R1, hI, fun kvs F2a H2a cks fk g2a crk ndk' frk ⟨ds, k, ek, hk, hds, ndk, hlk, q⟩ => ?_⟩
    subst ek
    obtain ⟨ald, _⟩ := CRs.toDp crk
    refine ⟨by rw [DpAll.length ald]; exact hds, fun p np => ?_⟩
    have g2b := Go.new (B := B) (o := .tup kvs) g2a.sub g2a.dk np
    have g2 := g2a.trans g2b
    obtain ⟨v2, f2, q1, q2, q3, q4, q5⟩ := R.change (g.trans g2) e (by intro z; cases z)
    rw [h1] at q1; cases q1
    have hkv : kvs = k.map kV := keyDs_dp ald hk
    subst hkv
    cases q2 with
    | @dt l _ vs2 _ fp2 t2 l2 al2 =>
      have fr2 : ∀ a ∈ f1, H a = none ∧ F2a a = none := fun a m => ⟨(fr a m).1, g2.nw a (fr a m).2 (by
        obtain ⟨o, z⟩ := cr.there a m
        rw [z]; exact fun z => by cases z)⟩
      have cr2 : CR X.K B.dd F2a (upd H2a p (.tup (k.map kV))) y c f1 := cr.mono g2.ff fun a m o eo => g2.hh a o (not_ms R.dk (fr a m).1) eo
      have na : ∀ a ∈ f1, a ∉ l :: fp2 := fun a m z => (q4 a z).1 (fr a m).1
      obtain ⟨vs', fp', w0, wl, w1, w2, w3⟩ := put_cr (k := k) al2 l2 ndk cr2
      refine ⟨l, _, rfl, .inr ⟨_, k, p, t2, rfl, upd_same, ?_, rfl⟩, ?_⟩
      · rw [List.length_zip, ← l2, Nat.min_self]; exact hlk
      rw [w0]
      have nl : l ∉ fp' := fun m => by
        rcases w2 _ m with m | m
        · exact na _ m List.mem_cons_self
        · exact (List.nodup_cons.mp q3).1 m
      refine k1 _ F2a σ _ (q5 _ _ (l :: fp') (fun a nf _ => upd_ne fun z => nf (by rw [z]; exact List.mem_cons_self)) (.dt upd_same wl (w1.mono (Same.refl _) fun a m o eo => ?_)) ?_ fun a m => ?_) (g.trans g2).ff q
      · rw [upd_ne fun z => nl (by rw [← z]; exact m)]; exact eo
      · refine List.nodup_cons.mpr ⟨nl, w3 (List.nodup_append.mpr ⟨nd, (List.nodup_cons.mp q3).2, fun a ha b hb e => ?_⟩)⟩
        subst e; exact na a ha (List.mem_cons_of_mem _ hb)
      · rcases List.mem_cons.mp m with z | m
        · exact .inl (by rw [z]; exact List.mem_cons_self)
        · rcases w2 a m with m | m
          · exact .inr (fr2 a m)
          · exact .inl (List.mem_cons_of_mem _ m)⟩
def trsOf (K : PySem.W.Frag) (B : Bs) : List (Str × XE) → List (TE × TE)
  | [] => []
  | (k, T) :: r => (tC (.str k), liftE K B T) :: trsOf K B r
@[simp] def xAll : List (Str × XE) → XA
  | [] => xNil
  | (_, T) :: r => xCons T (xAll r)
theorem pairs_read {K : PySem.W.Frag} : ∀ {kts : List (Str × XE)} {σ : L2.St} {H F : Hp} {γ : List Cell} {Q' : List Cell → Prop} {Q : List (V × V) → Hp → Prop}, Rel K B γ F H σ → xAll kts γ Q' →
    (∀ vs F' H' cs fp, Go B F H F' H' → CRs K B.dd F' H' vs cs fp → fp.Nodup → (∀ a ∈ fp, H a = none ∧ F' a = none) → vs.length = kts.length → Q' cs → Q ((kts.map fun kt => V.str kt.1).zip vs) H') → tPairs (trsOf K B kts) σ H Q
  | [], σ, H, F, γ, Q', Q, R, hT, k => k [] F H [] [] R.refl .nil List.nodup_nil (fun _ m => nomatch m) rfl hT
  | (k0, T) :: r, σ, H, F, γ, Q', Q, R, hT, k => by
    refine ⟨γ, F, _, R, hT, fun v F1 H1 c f g1 sz cr nd fr q => ?_⟩
    refine pairs_read (R.step g1) q fun vs F2 H2 cs fp g2 crs nds frs hl q2 => ?_
    have d1 := R.dk
    refine k (v :: vs) F2 H2 (c :: cs) (f ++ fp) (g1.trans g2) (.cons (cr.mono g2.ff fun a m o e => g2.hh a o (not_ms d1 (fr a m).1) e) crs) ?_ (fun a m => ?_) (by simp [hl]) q2
    · refine List.nodup_append.mpr ⟨nd, nds, fun a ha b hb e => ?_⟩
      subst e
      obtain ⟨o, z⟩ := cr.there a ha
      rw [(frs a hb).1] at z; cases z
    · rcases List.mem_append.mp m with m | m
      · refine ⟨(fr a m).1, g2.nw a (fr a m).2 ?_⟩
        obtain ⟨o, z⟩ := cr.there a m
        rw [z]; exact fun z => by cases z
      · exact ⟨g1.none (frs a m).1, (frs a m).2⟩
theorem mergeK_nodup : ∀ {more kvs : List (Key × V)}, ((kvs ++ more).map (·.1)).Nodup → mergeK kvs more = kvs ++ more
  | [], kvs, _ => by simp [mergeK]
  | p :: r, kvs, n => by
    have h : (kvs.any fun kv => decide (kv.1 = p.1)) = false := by
      rw [List.any_eq_false]
      intro q m z
      rw [List.map_append, List.map_cons, List.nodup_append] at n
      exact n.2.2 q.1 (List.mem_map_of_mem m) p.1 List.mem_cons_self (of_decide_eq_true z)
    have e : mergeK kvs (p :: r) = mergeK (kvs ++ [p]) r := by
      unfold mergeK
      rw [List.foldl_cons]
      unfold putK
      rw [h]; rfl
    rw [e, mergeK_nodup (by rw [List.append_assoc]; exact n), List.append_assoc]; rfl
@[simp] def xDisp (kts : List (Str × XE)) : XE := fun γ K => (xAll kts) γ fun cs => K (.dk (kts.map fun kt => .inr kt.1) cs)
theorem de_disp {keys : List (Option Expr)} {values : List Expr} {kts : List (Str × XE)} (h : PPs X pos keys values (trsOf X.K B kts)) (hn : (kts.map (·.1)).Nodup) (hl : kts.length ≤ 15) (hall : keys.all (·.isSome) = true) (hl2 : keys.length = values.length) (h0 : keys ≠ []) (h15 : keys.length ≤ 15) :
    DE X B (.Dict keys values pos) (xDisp kts) := pe_imp (pe_disp h hall hl2 h0 h15) fun σ H Q ⟨γ, F, Q', R, hT, k⟩ _ => fun p np => by
  have g0 := Go.new (B := B) (o := .dK []) R.sub R.dk np
  have np' : F p = none := (new_fr R.sub np p (by simp)).2
  refine pairs_read (R.step g0) hT fun vs F1 H1 cs fp g1 crs nd fr hl1 q => ?_
  have mp : p ∉ B.ms := not_ms R.dk np
  have e1 : H1 p = some (.dK []) := g1.hh p _ mp upd_same
  have fp1 : F1 p = none := g1.nw p np' (by rw [upd_same]; exact fun z => by cases z)
  refine ⟨e1, (kts.map fun kt => (.inr kt.1 : Key)).zip vs, ?_, ?_, ?_⟩
  · rw [List.map_zip_eq_zipWith, List.zip, List.zipWith_map_left]
    simp only [List.zipWith_map_left, List.zip]
    rfl
  · rw [List.length_zip, List.length_map]; omega
  · intro sz
    have nds : ((kts.map fun kt => (.inr kt.1 : Key)).zip vs).map (·.1) = kts.map fun kt => (.inr kt.1 : Key) := by
      rw [List.map_fst_zip]
      rw [List.length_map]; omega
    have hm : mergeK [] ((kts.map fun kt => (.inr kt.1 : Key)).zip vs) = (kts.map fun kt => (.inr kt.1 : Key)).zip vs := by
      rw [mergeK_nodup, List.nil_append]
      rw [List.nil_append, nds]
      rw [show (kts.map fun kt => (.inr kt.1 : Key)) = (kts.map (·.1)).map Sum.inr by rw [List.map_map]; rfl]
      exact List.Pairwise.map _ (fun a b hab e => hab (Sum.inr.inj e)) hn
    rw [hm]
    rw [hm] at sz
    have na : ∀ a ∈ fp, a ≠ p := fun a m e => by
      have := (fr a m).1
      rw [e, upd_same] at this
      cases this
    have g := g0.trans g1
    refine k (.ref p) F1 _ (.dk _ cs) (p :: fp) (g.put R.dk np fp1 (fun φ z => by rw [e1] at z; cases z)) sz (.dk upd_same (by rw [List.length_map]; exact hl1.symm) (crs.mono (Same.refl _) fun a m o e => by rw [upd_ne (na a m)]; exact e)) (List.nodup_cons.mpr ⟨fun m => na p m rfl, nd⟩) (fun a m => ?_) q
    rcases List.mem_cons.mp m with z | m
    · subst z; exact ⟨np, fp1⟩
    · exact ⟨g0.none (fr a m).1, (fr a m).2⟩
@[simp] def xIndex (Ta Tb : XE) : XE := fun γ K => Ta γ fun a => ∃ ds, lstD a = some ds ∧ Tb γ fun b => ∃ d j z, toD b = some d ∧ SeqAt.shaped (.list ds) = true ∧ SeqAt.shaped d = true ∧ ds[j]? = some z ∧ PyData.eqv z d = true ∧ (∀ (m : Nat) (z' : D), m < j → ds[m]? = some z' → PyData.eqv z' d = false) ∧ K (.im (.int (j : Nat)))
theorem de_index (h : PE X e (tBM X.K "list" (rIndexD X.K) (liftR X.K B Ta) (tCons (liftR X.K B Tb) tNil))) : DE X B e (xIndex Ta Tb) :=
  pe_imp h fun σ H Q ⟨γ, F, Q', R, hT, k⟩ _ => ⟨γ, F, _, R, hT, fun x F1 H1 c1 f1 g1 sz1 cr1 fr1 ⟨ds, e1, hb⟩ => by
    obtain ⟨l, vs, rfl, t, al⟩ := cr1.lst g1.sub e1
    refine ⟨.inl ⟨rfl, _, t⟩, γ, F1, _, R.step g1, hb, fun y F2 H2 c2 f2 g2 sz2 cr2 fr2 ⟨d, j, z, e2, s1, s2, hj, he, hno, q⟩ => ?_⟩
    have cr1' : CR X.K B.dd F2 H2 (.ref l) c1 f1 := cr1.mono g2.ff fun a m o e => g2.hh a o (fr1 a m) e
    have gk : Gives X.K B F H Q' Q := k
    exact ⟨l, y, d, ds, j, z, rfl, rfl, cr1'.toH g2.sub (lstD_toD e1), cr2.toH g2.sub e2, s1, s2, hj, he, hno, (gk.from (g1.trans g2)).data g2.sub g2.dk (.int _) q⟩⟩
@[simp] def cBitLen : Cell → (Cell → Prop) → Prop := fun a K => ∃ i, a = .im (.int i) ∧ K (.im (.int (Builtin.Int.intBits i : Nat)))
theorem de_bitlen (h : PE X e (tBits (liftR X.K B Ta))) : DE X B e (x1 cBitLen Ta) :=
  pe_imp h fun σ H Q ⟨γ, F, Q', R, hT, k⟩ _ => ⟨γ, F, _, R, hT, fun x F1 H1 c1 f1 g1 sz1 cr1 fr1 ⟨i, e1, q⟩ => by
    subst e1
    have gk : Gives X.K B F H Q' Q := k
    rw [cr1.int]
    exact ⟨i, rfl, (gk.from g1).data g1.sub g1.dk (.int _) q⟩⟩
@[simp] def cStr : List Cell → (Cell → Prop) → Prop := fun cs Q => ∃ i, cs = [.im (.int i)] ∧ i.natAbs.log2 < 1920 ∧ Q (.im (.str (toString i)))
theorem ok_str {K : PySem.W.Frag} : RAOk K B (fun xs H Q => ∃ i, xs = [.int i] ∧ i.natAbs.log2 < 1920 ∧ Q (.str (toString i)) H) cStr := fun F H vs cs fp K' Q s d sz crs fr ⟨i, e, hi, q⟩ g => by
  subst e
  obtain ⟨v, rfl, h⟩ := crs_one crs
  rw [h.int]
  exact ⟨i, rfl, hi, g.data s d (.str _) q⟩
def keyOfD : Key → D
  | .inl i => .int i
  | .inr s => .str s
theorem dp_keys {K : PySem.W.Frag} {H : Hp} : ∀ ks : List Key, DpAll K H (ks.map kV) (ks.map keyOfD)
  | [] => .nil
  | .inl i :: ks => .cons (.int i) (dp_keys ks)
  | .inr i :: ks => .cons (.str i) (dp_keys ks)
@[simp] def cLstD : List Cell → (Cell → Prop) → Prop := fun cs Q => ∃ ks vs, (cs = [.dk ks vs]) ∧ Q (.ow ((ks.map keyOfD).map .im))
theorem ok_lstD {K : PySem.W.Frag} : RAOk K B rListD cLstD := fun F H vs cs fp K' Q s d sz crs fr ⟨ks, vs0, e, q⟩ g => by
  subst e
  obtain ⟨v, rfl, h⟩ := crs_one crs
  cases h with
  | @dk a _ vs1 _ fp t l al =>
    refine ⟨a, _, rfl, t, fun p np => ?_⟩
    have e : ((ks.zip vs1).map fun kv => kV kv.1) = ks.map kV := by
      rw [show ((ks.zip vs1).map fun kv => kV kv.1) = ((ks.zip vs1).map (·.1)).map kV by rw [List.map_map]; rfl, List.map_fst_zip (by omega)]
    rw [e]
    exact g.lstD s d (dp_keys ks) q np
end
end DL
set_option maxHeartbeats 1000000
namespace DL
open PySem PySem.Spec PyProof.Rows L2
theorem obx_ok {P : Program} {w : World} {H : Hp} {h : Heap} {a : Addr} {o : Obj} (e : h.get? a = some o) : ObjOk P w H h a (ObX a o) :=
  ⟨e, ⟨o, e⟩, fun h1 h2 e1 k => k _ e1⟩
def addC (C : Addr → Option Obj) (H : Hp) : Hp := fun a => match C a with
  | some o => some (ObX a o)
  | none => H a
def noC (C : Addr → Option Obj) (H : Hp) : Hp := fun a => match C a with
  | some _ => none
  | none => H a
def backC (C : Addr → Option Obj) (H H1 : Hp) : Hp := fun a => match C a with
  | some _ => H a
  | none => H1 a
section
variable {C : Addr → Option Obj} {H H1 : Hp} {a : Addr} {o : Obj} {u : HO}
theorem addC_in (e : C a = some o) : addC C H a = some (ObX a o) := by unfold addC; rw [e]
theorem addC_out (e : C a = none) : addC C H a = H a := by unfold addC; rw [e]
theorem noC_in (e : C a = some o) : noC C H a = none := by unfold noC; rw [e]
theorem noC_out (e : C a = none) : noC C H a = H a := by unfold noC; rw [e]
theorem backC_in (e : C a = some o) : backC C H H1 a = H a := by unfold backC; rw [e]
theorem backC_out (e : C a = none) : backC C H H1 a = H1 a := by unfold backC; rw [e]
theorem cOut (h : ∀ o, C a ≠ some o) : C a = none := by
  cases e : C a with
  | none => rfl
  | some o => exact absurd e (h o)
end
section
variable {P : Program} {w : World} {K : PySem.W.Frag} {mg : Str → Option Value} {base : Heap} {A : Around} {outer : List Env} {s s' : Shared} {H H' H1 : Hp} {C : Addr → Option Obj} {Q Q' : VK} {u : Value} {h h' : Heap}
/-- told objects are all of them in the abstract heap -/
def InC (C : Addr → Option Obj) (H : Hp) : Prop := ∀ a o, C a = some o → H a = some (ObX a o)
theorem InC.ne (i : InC C H) {b : Addr} {x : HO} (e : H b = some x) (n : ∀ φ, x ≠ .ext φ) : C b = none := cOut fun o z => by
  rw [i b o z] at e
  exact n _ (Option.some.inj e).symm
theorem hok_no (x : HOk P w H h) (i : InC C H) : HOk P w (noC C H) h := fun a o e => by
  have ca : C a = none := cOut fun q z => by rw [noC_in z] at e; cases e
  rw [noC_out ca] at e
  refine (x a o e).stay (fun _ _ _ q => q) (fun b q => ?_) fun b xs q => ?_
  · rw [noC_out (i.ne q fun φ z => by cases z)]; exact q
  · rw [noC_out (i.ne q fun φ z => by cases z)]; exact q
theorem hok_add (x : HOk P w H h) (k : ∀ a o, C a = some o → H a = none ∧ h.get? a = some o) : HOk P w (addC C H) h := fun a o e => by
  cases ca : C a with
  | some q =>
    rw [addC_in ca] at e
    cases e
    exact obx_ok (k a q ca).2
  | none =>
    rw [addC_out ca] at e
    have nc : ∀ {b y}, H b = some y → C b = none := fun {b y} q => cOut fun o z => by rw [(k b o z).1] at q; cases q
    exact (x a o e).stay (fun _ _ _ q => q) (fun b q => by rw [addC_out (nc q)]; exact q) fun b xs q => by rw [addC_out (nc q)]; exact q
theorem env_no (e : Env0 P w K mg base A outer s H) (i : InC C H) : Env0 P w K mg base A outer s (noC C H) := by
  have none_ : ∀ {b}, H b = none → noC C H b = none := fun {b} z => by
    cases ca : C b with
    | some q => exact noC_in ca
    | none => rw [noC_out ca]; exact z
  exact ⟨e.frames, e.mod, fun b o z => ⟨(e.bs b o z).1, none_ (e.bs b o z).2⟩, e.bsz, e.funs, fun b m => none_ (e.frf b m), hok_no e.hok i, e.bare⟩
theorem env_add (e : Env0 P w K mg base A outer s H) (k : ∀ a o, C a = some o → H a = none ∧ s.heap.get? a = some o) (kb : ∀ a o, C a = some o → base.get? a = none ∧ a ∉ frs outer) : Env0 P w K mg base A outer s (addC C H) := by
  refine ⟨e.frames, e.mod, fun b o z => ⟨(e.bs b o z).1, ?_⟩, e.bsz, e.funs, fun b m => ?_, hok_add e.hok k, e.bare⟩
  · rw [addC_out (cOut fun q y => by rw [(kb b q y).1] at z; cases z)]; exact (e.bs b o z).2
  · rw [addC_out (cOut fun q y => (kb b q y).2 m)]; exact e.frf b m
/-- behind a call that does not know of the told objects -/
theorem ce_back (e : Env0 P w K mg base A outer s H) (i : InC C H) (h : CE outer P w (noC C H) s Q' u s') (k : ∀ v H1, (∀ a o, C a = some o → H1 a = none) → Q' v H1 → Q v (backC C H H1)) : CE outer P w H s Q u s' := by
  obtain ⟨v, H1, os, bare, un, hok, r, q⟩ := h
  have hC : ∀ {a o}, C a = some o → H a = some (ObX a o) := fun {a o} z => i a o z
  have obj : ∀ {a o}, C a = some o → s.heap.get? a = some o := fun {a o} z => (e.hok a _ (hC z)).1
  have nfr : ∀ {a o}, C a = some o → a ∉ frs outer := fun {a o} z m => by
    have := e.frf a m
    rw [hC z] at this; cases this
  have n1 : ∀ {a o}, C a = some o → H1 a = none := fun {a o} z => un.free a o (obj z) (noC_in z) (by simp)
  have o1 : ∀ {a o}, C a = some o → s'.heap.get? a = some o := fun {a o} z => un.keep a o (obj z) (noC_in z) (nfr z) (by simp)
  have nn : ∀ {b}, H b = none → C b = none := fun {b} z => cOut fun o y => by rw [hC y] at z; cases z
  have nx : ∀ {b x}, H b = some x → (∀ φ, x ≠ .ext φ) → C b = none := fun e n => i.ne e n
  refine ⟨v, backC C H H1, os, bare, ⟨fun b o z n hb hx => ?_, fun b o z n hb hx => ?_, fun b o z n hx => ?_, fun b o z hx => un.there b o z hx, fun b xs z => ?_, fun b ob xs z => ?_, fun b ps z => ?_⟩, fun a o z => ?_, r, k v H1 (fun a o z => n1 z) q⟩
  · exact un.keep b o z (by rw [noC_out (nn n)]; exact n) hb hx
  · exact un.slot b o z (by rw [noC_out (nn n)]; exact n) hb hx
  · rw [backC_out (nn n)]; exact un.free b o z (by rw [noC_out (nn n)]; exact n) hx
  · have c := nx z (fun φ y => by cases y)
    rw [backC_out c]; exact un.tups b xs (by rw [noC_out c]; exact z)
  · have c := nx z (fun φ y => by cases y)
    rw [backC_out c]; exact un.frzs b ob xs (by rw [noC_out c]; exact z)
  · have c := nx z (fun φ y => by cases y)
    rw [backC_out c]; exact un.tbls b ps (by rw [noC_out c]; exact z)
  · cases ca : C a with
    | some q =>
      rw [backC_in ca, hC ca] at z
      cases z
      exact obx_ok (o1 ca)
    | none =>
      rw [backC_out ca] at z
      have nc : ∀ {b y}, H1 b = some y → C b = none := fun {b y} q => cOut fun o z => by rw [n1 z] at q; cases q
      exact (hok a o z).stay (fun _ _ _ q => q) (fun b q => by rw [backC_out (nc q)]; exact q) fun b xs q => by rw [backC_out (nc q)]; exact q
/-- behind a call to which objects were told -/
theorem ce_no (k : ∀ a o, C a = some o → H a = none ∧ s.heap.get? a = some o) (h : CE outer P w (addC C H) s Q' u s') (q : ∀ v H1, Q' v H1 → InC C H1 ∧ Q v (noC C H1)) : CE outer P w H s Q u s' := by
  obtain ⟨v, H1, os, bare, un, hok, r, q'⟩ := h
  obtain ⟨i1, q1⟩ := q v H1 q'
  have o1 : ∀ {a o}, C a = some o → s'.heap.get? a = some o := fun {a o} z => (hok a _ (i1 a o z)).1
  have nc : ∀ {b y}, H b = some y → C b = none := fun {b y} q => cOut fun o z => by rw [(k b o z).1] at q; cases q
  refine ⟨v, noC C H1, os, bare, ⟨fun b o z n hb hx => ?_, fun b o z n hb hx => ?_, fun b o z n hx => ?_, fun b o z hx => un.there b o z hx, fun b xs z => ?_, fun b ob xs z => ?_, fun b ps z => ?_⟩, hok_no hok i1, r, q1⟩
  · cases c : C b with
    | some p => 
      have := (k b p c).2
      rw [this] at z; cases z
      exact o1 c
    | none => exact un.keep b o z (by rw [addC_out c]; exact n) hb hx
  · cases c : C b with
    | some p => 
      have := (k b p c).2
      rw [this] at z; cases z
      exact ⟨o.slots, o1 c⟩
    | none => exact un.slot b o z (by rw [addC_out c]; exact n) hb hx
  · cases c : C b with
    | some p => exact noC_in c
    | none => rw [noC_out c]; exact un.free b o z (by rw [addC_out c]; exact n) hx
  · rw [noC_out (nc z)]; exact un.tups b xs (by rw [addC_out (nc z)]; exact z)
  · rw [noC_out (nc z)]; exact un.frzs b ob xs (by rw [addC_out (nc z)]; exact z)
  · rw [noC_out (nc z)]; exact un.tbls b ps (by rw [addC_out (nc z)]; exact z)
end
end DL
set_option maxHeartbeats 1000000
namespace DL
open PySem PySem.Spec PyProof.Rows L2
section
variable {K : PySem.W.Frag} {C : Addr → Option Obj} {F H : Hp} {da : Option Addr}
theorem sqL_no (i : InC C F) {a : Addr} {xs : List V} (h : SqL K F a xs) : SqL K (noC C F) a xs := by
  rcases h with (h | ⟨o, h⟩) | h
  · exact .inl (.inl (by rw [noC_out (i.ne h fun φ z => by cases z)]; exact h))
  · exact .inl (.inr ⟨o, by rw [noC_out (i.ne h fun φ z => by cases z)]; exact h⟩)
  · exact .inr h
theorem sqT_no (i : InC C F) {a : Addr} {xs : List V} (h : SqT K F a xs) : SqT K (noC C F) a xs := by
  rcases h with (h | ⟨o, h⟩) | h
  · exact .inl (.inl (by rw [noC_out (i.ne h fun φ z => by cases z)]; exact h))
  · exact .inl (.inr ⟨o, by rw [noC_out (i.ne h fun φ z => by cases z)]; exact h⟩)
  · exact .inr h
mutual
theorem dp_no (i : InC C F) : ∀ {v : V} {d : D}, Dp K F v d → Dp K (noC C F) v d
  | _, _, .non => .non
  | _, _, .bl b => .bl b
  | _, _, .int i => .int i
  | _, _, .str x => .str x
  | _, _, .lst h hs => .lst (sqL_no i h) (dpAll_no i hs)
  | _, _, .tup h hs => .tup (sqT_no i h) (dpAll_no i hs)
theorem dpAll_no (i : InC C F) : ∀ {vs : List V} {ds : List D}, DpAll K F vs ds → DpAll K (noC C F) vs ds
  | _, _, .nil => .nil
  | _, _, .cons h hs => .cons (dp_no i h) (dpAll_no i hs)
end
theorem same_no (s : Same F H) (i : InC C H) (f : ∀ a o, C a = some o → F a = some (ObX a o)) : Same (noC C F) (noC C H) := fun a o e => by
  have c : C a = none := cOut fun q z => by rw [noC_in z] at e; cases e
  rw [noC_out c] at e ⊢
  exact s a o e
end
theorem capt_vals {K : PySem.W.Frag} {F : Hp} {cl : List (Str × Addr)} : ∀ {fr : List Str} {ds : List D}, ds.length = fr.length → (∀ (i : Nat) (y : Str), fr[i]? = some y → ∃ c v d ob u, cl.lookup y = some c ∧ ds[i]? = some d ∧ Dp K F v d ∧ F c = some (ObX c ob) ∧ ob.data = .cell (some u) ∧ RelV v u) →
    ∃ ws : List V, ws.length = fr.length ∧ DpAll K F ws ds ∧ ∀ (i : Nat) (y : Str), fr[i]? = some y → ∃ c v ob u, cl.lookup y = some c ∧ ws[i]? = some v ∧ F c = some (ObX c ob) ∧ ob.data = .cell (some u) ∧ RelV v u
  | [], ds, l, _ => by
    have : ds = [] := List.length_eq_zero_iff.mp l
    subst this
    exact ⟨[], rfl, .nil, fun i y h => by simp at h⟩
  | x :: fr, [], l, _ => by simp at l
  | x :: fr, d :: ds, l, h => by
    obtain ⟨ws, l2, hd, hw⟩ := capt_vals (fr := fr) (ds := ds) (by simpa using l) fun i y e => by simpa using h (i + 1) y (by simpa using e)
    obtain ⟨c, v, d', ob, u, h1, h2, h3, h4, h5, h6⟩ := h 0 x rfl
    have ed : d = d' := by simpa using h2
    subst ed
    refine ⟨v :: ws, by simp [l2], .cons h3 hd, fun i y e => ?_⟩
    cases i with
    | zero =>
      have : x = y := by simpa using e
      subst this
      exact ⟨c, v, ob, u, h1, rfl, h4, h5, h6⟩
    | succ i =>
      obtain ⟨c, v', ob, u, q⟩ := hw i y (by simpa using e)
      exact ⟨c, v', ob, u, by simpa using q⟩
/-- the cells of a closure, as objects -/
noncomputable def clC (cl : List (Str × Addr)) (F : Hp) : Addr → Option Obj := fun a => open Classical in if h : ∃ o, (∃ y, cl.lookup y = some a) ∧ F a = some (ObX a o) ∧ ∃ v, o.data = .cell v then some h.choose else none
theorem clC_some {cl : List (Str × Addr)} {F : Hp} {a : Addr} {o : Obj} (h : clC cl F a = some o) : (∃ y, cl.lookup y = some a) ∧ F a = some (ObX a o) ∧ ∃ v, o.data = .cell v := by
  unfold clC at h
  split at h
  · rename_i q
    cases h
    exact q.choose_spec
  · cases h
theorem clC_of {cl : List (Str × Addr)} {F : Hp} {a : Addr} {y : Str} {o : Obj} {v : Option Value} (h : cl.lookup y = some a) (e : F a = some (ObX a o)) (hv : o.data = .cell v) : ∃ q, clC cl F a = some q := by
  unfold clC
  rw [dif_pos ⟨o, ⟨y, h⟩, e, v, hv⟩]
  exact ⟨_, rfl⟩
def nfOf (L : LamI) (cl : List (Str × Addr)) (c : Addr) : NdefX.NF := ⟨"<lambda>", L.qual, L.params, [], L.scope, cl, c⟩
/-- the promise of a lambda as one of the callee's first argument -/
def lamFS (L : LamI) (S : List D → FS) : FS := fun cs K' => ∃ ds r, cs = .fn L ds :: r ∧ S ds r K'
def LamP (P : Program) (w : World) (K : PySem.W.Frag) (mg : Str → Option Value) (base : Heap) (dn : Dn) (k : Nat) (L : LamI) (S : List D → FS) : Prop :=
  ∀ (A : Around) (outer : List Env) (s : Shared) (H : Hp) (f : Addr) (us : List Value) (vs : List V) (Q : VK), Room k A → A.guards = some [] → Env0 P w K mg base A outer s H → Vals vs us → spOf K dn (lamFS L S) (.ref f :: vs) H Q E0 →
    codeAny (model P w) A (.call (.ref f) ⟨us, []⟩) (L2.CR CX0 outer P w H s Q E0) s
theorem dp_same {K : PySem.W.Frag} {F : Hp} {vs : List V} {ds : List D} (h : DpAll K F vs ds) : vs.length = ds.length := DpAll.length h
theorem lam_ok {P : Program} {w : World} {K : PySem.W.Frag} {mg : Str → Option Value} {base : Heap} {dn : Dn} {k : Nat} {L : LamI} {N ps : List Str} {S : List D → FS} {T : XE} (Sc : NdefX.NScope N ps L.fr L.scope)
    (hb : ∀ (cl : List (Str × Addr)) (pm cv ctv : Value) (us : List Value), us.length = ps.length → bindArgs (PySem.W.kla_fn "<lambda>" L.qual L.params L.body L.scope cl pm cv ctv) ⟨us, []⟩ = pure (ps.zip us))
    (args : ∀ ds cs K', S ds cs K' → cs.length = ps.length ∧ ∃ es : List D, cs = es.map .im)
    (body : ∀ (cl : List (Str × Addr)) (c' f : Addr) (A : Around) (outer : List Env) (s : Shared) (H : Hp) (B : Bs), B.dn = dn → Room k (A.deeper (NdefX.envF (nfOf L cl c') f s.heap.objs.size)) → A.guards = some [] → DE (NdefX.ncx CX0 P w K mg base N (nfOf L cl c') f A outer s H E0).nox B L.body T)
    (main : ∀ ds cs K', S ds cs K' → ds.length = L.fr.length → T (cs ++ (ds.map .im ++ List.replicate (N.length - cs.length - ds.length) .un)) K') : LamP P w K mg base dn (k + 1) L S := by
  intro A outer s H f us vs Q hr hgd e0 r hsp
  obtain ⟨F0, da, cs0, fp, K', sm, dk, mf, crs, nd, hF, ⟨ds, cs, ec, hS⟩, k1⟩ := hsp
  subst ec
  obtain ⟨hlc, es, ecs⟩ := args ds cs K' hS
  subst ecs
  cases crs with
  | @cons _ _ _ _ f1 fp2 crf crs =>
    obtain ⟨ald, efp⟩ := CRs.toDp crs
    subst efp
    cases crf with
    | @fn _ c' cl pm ctv _ _ hf hc cap =>
      have of1 := (e0.hok f _ (sm _ _ hf)).1
      obtain ⟨⟨oc, vso, tq, hoc, hdc, hvc⟩, _, _⟩ := e0.hok c' _ (sm _ _ hc)
      obtain ⟨ws, lw, alw, hw⟩ := capt_vals cap.len cap.has
      let C := clC cl F0
      have iF : InC C F0 := fun a o e => (clC_some e).2.1
      have iH : InC C H := fun a o e => sm _ _ (iF a o e)
      have inCell : ∀ y c, cl.lookup y = some c → ∃ o v, C c = some o ∧ s.heap.get? c = some o ∧ o.data = .cell v := fun y c e => by
        have hy := cap.only y c e
        obtain ⟨i, hi⟩ := List.mem_iff_getElem?.mp hy
        obtain ⟨c2, v, d, ob, u, h1, h2, h3, h4, h5, h6⟩ := cap.has i y hi
        rw [e] at h1
        cases h1
        obtain ⟨q, hq⟩ := clC_of e h4 h5
        obtain ⟨_, q2, v2, q3⟩ := clC_some hq
        exact ⟨q, v2, hq, (e0.hok c _ (sm _ _ q2)).1, q3⟩
      have e1 : Env0 P w K mg base A outer s (noC C H) := env_no e0 iH
      have cells : NdefX.CellsAt cl L.fr (ws.map some) s.heap (noC C H) := by
        refine ⟨by rw [List.length_map]; exact lw, fun y c e => ?_, cap.inj, fun i y e => ?_⟩
        · obtain ⟨o, v, h1, h2, h3⟩ := inCell y c e
          exact ⟨noC_in h1, v, o, h2, h3⟩
        · obtain ⟨c, v, ob, u, h1, h2, h3, h4, h5⟩ := hw i y e
          refine ⟨c, h1, fun v' e' => ?_⟩
          rw [List.getElem?_map, h2] at e'
          cases e'
          exact ⟨u, h5, ob, (e0.hok c _ (sm _ _ h3)).1, h4⟩
      have lim : s.heap.NoLimit := e1.mod.nolimit.keeps fun b o e => (e1.bs b o e).1
      have hl : vs.length = ps.length := by rw [dp_same ald, ← hlc, List.length_map]
      have core : codeAny (model P w) A (.call (.ref f) ⟨us, []⟩) (L2.CR CX0 outer P w (noC C H) s (fun v H1 => (∀ a o, C a = some o → H1 a = none) → Q v (backC C H H1)) E0) s := by
        refine PySem.W.kla_callFunE hr.depth of1 rfl Sc.co Sc.gen rfl ⟨c', oc, vso, tq, rfl, hoc, hdc, hvc⟩ ?_
        rw [hb _ _ _ _ us (by rw [← r.length]; exact hl)]
        refine wpAny_pure (wpAny_newFunctionEnv Sc.nocell (fun ⟨n, _⟩ hy => Sc.par n (List.of_mem_zip hy).1) (fun h₁ hns hsb => ⟨lim.fresh _ hsb, ?_⟩) Sc.kind)
        show codeAny _ _ (.expr L.body (NdefX.envF (nfOf L cl c') f s.heap.objs.size)) _ _
        have kp : ∀ b o, s.heap.get? b = some o → h₁.get? b = some o := fun b o e => hsb.extBut b o (Nat.ne_of_lt (Heap.lt_size e)) (Heap.get?_push_of_some _ e)
        have I : Inv (NdefX.ncx CX0 P w K mg base N (nfOf L cl c') f A outer s (noC C H) E0) [] (NdefX.startF N vs (ws.map some)) (noC C H) { s with heap := h₁, toks := s.toks + (ps.zip us).length } := NdefX.inv_startN (F := nfOf L cl c') Sc hr.hd e1 hl r cells hns kp
        -- the frame
        have nfrz : ∀ {a}, a ∈ (Bs.mk H F0 da dn).ms → C a = none := fun {a} m => cOut fun o z => dk.noext a m _ (iH a o z)
        have dk1 : DeckOk ⟨noC C H, noC C F0, da, dn⟩ (noC C H) := DeckOk.keep (B := ⟨noC C H, noC C F0, da, dn⟩) (H := H) dk (fun a m => noC_out (nfrz m)) fun a q e => by
          rw [noC_out (cOut fun o z => ?_)]
          · exact e
          · obtain ⟨_, _, v, hv⟩ := clC_some z
            obtain ⟨⟨oc, vs, t, g1, g2, _⟩, _, _⟩ := e0.hok a _ e
            have g3 := (e0.hok a _ (iH a o z)).1
            rw [g3] at g1
            cases g1
            rw [hv] at g2
            cases g2
        have sm1 : Same (noC C F0) (noC C H) := same_no sm iH iF
        have g0 : Go ⟨noC C H, noC C F0, da, dn⟩ (noC C F0) (noC C H) (noC C F0) (noC C H) := Go.refl sm1 dk1
        have hlen : (es.map Cell.im).length = vs.length := by rw [List.length_map]; exact (dp_same ald).symm
        have R : Rel K ⟨noC C H, noC C F0, da, dn⟩ (es.map .im ++ (ds.map .im ++ List.replicate (N.length - (es.map Cell.im).length - ds.length) .un)) (noC C F0) (noC C H) (NdefX.startF N vs (ws.map some)) := by
          refine ⟨g0, fun a m => ?_, fun a m => ?_, [], ?_, List.nodup_nil, fun _ z => nomatch z⟩
          · rw [noC_out (nfrz m)]; exact (mf a m).1
          · show noC C H a ≠ none
            rw [noC_out (nfrz m)]
            obtain ⟨o, e⟩ := dk.there a m
            rw [e]; exact fun z => by cases z
          · have cr2 := SlotsR.ofCRs (N.length - (es.map Cell.im).length - ds.length) (CRs.ofDp (da := Bs.dd ⟨noC C H, noC C F0, da, dn⟩) (H := noC C H) (DpAll.app (dpAll_no iF ald) (dpAll_no iF alw)))
            have e2 : NdefX.startF N vs (ws.map some) = (vs ++ ws).map some ++ List.replicate (N.length - (es.map Cell.im).length - ds.length) none := by
              unfold NdefX.startF
              rw [List.map_append, List.append_assoc, List.length_map, hlen, dp_same alw]
            rw [e2, ← List.append_assoc, ← List.map_append]
            exact cr2
        have hT := main ds (es.map .im) K' hS cap.len
        have pe := PE.nox (body cl c' f A outer s (noC C H) ⟨noC C H, noC C F0, da, dn⟩ rfl (hr.deeper _) hgd)
        refine PySem.W.kla_codeExpr (wpAny_mono (pe.run [] _ _ (noC C H) (fun v H1 => (∀ a o, C a = some o → H1 a = none) → Q v (backC C H H1)) I ⟨_, noC C F0, K', R, hT, fun v F' H1 c fp' g sz cr nd' fr q hn => ?_⟩) (fun v s' hq => ?_) fun e s' hq => hq)
        · have nc : ∀ {b y}, H1 b = some y → C b = none := fun {b y} q => cOut fun o z => by rw [hn b o z] at q; cases q
          have nF : ∀ {b y}, F' b = some y → C b = none := fun {b y} q => nc (g.sub _ _ q)
          refine k1 v (backC C F0 F') (backC C H H1) c ⟨⟨fun a o e => ?_, fun a o m e => ?_, fun a e n => ?_, fun a o e => ?_, ?_⟩, fp', cr.mono (fun a o e => ?_) (fun a m o e => ?_), nd', fun a m => ?_⟩ q
          · cases ca : C a with
            | some q => rw [backC_in ca]; exact e
            | none => rw [backC_out ca]; exact g.ff a o (by rw [noC_out ca]; exact e)
          · have e' : H a = some o := by simpa [exc] using e
            cases ca : C a with
            | some q => rw [backC_in ca]; exact e'
            | none => rw [backC_out ca]; exact g.hh a o m (by rw [noC_out ca]; exact e')
          · have n' : H a ≠ none := by simpa [exc] using n
            cases ca : C a with
            | some q =>
              have h0 := iF a q ca
              have e0' : F0 a = none := e
              rw [e0'] at h0; cases h0
            | none => rw [backC_out ca]; exact g.nw a (by rw [noC_out ca]; exact e) (by rw [noC_out ca]; exact n')
          · cases ca : C a with
            | some q =>
              rw [backC_in ca] at e ⊢
              exact sm _ _ e
            | none =>
              rw [backC_out ca] at e ⊢
              exact g.sub _ _ e
          · refine DeckOk.keep (B := ⟨_, F0, da, dn⟩) (H := H1) g.dk (fun a m => backC_out (nfrz m)) fun a q e => ?_
            rw [backC_out (nc e)]; exact e
          · rw [backC_out (nF e)]; exact e
          · rw [backC_out (nc e)]; exact e
          · obtain ⟨o, e⟩ := cr.there a m
            have ca := nc e
            have := (fr a m).1
            rw [noC_out ca] at this
            have hx : exc H ([] ++ []) a = none := by simpa [exc] using this
            refine ⟨hx, ?_⟩
            rw [backC_out ca]; exact (fr a m).2
        · obtain ⟨x, H', J, rv, q⟩ := hq
          exact ⟨x, H', J.os, J.bare, J.base, J.hok, rv, q⟩
      refine codeAny_mono core fun r s' hq => ?_
      cases r with
      | error e => exact hq
      | ok fl =>
        cases fl with
        | ret u => exact ce_back e0 iH hq fun v H1 n q => q n
        | next => exact hq
        | brk => exact hq
        | cont => exact hq
end DL
set_option maxHeartbeats 1000000
namespace DL
open PySem PySem.Spec PyProof.Rows L2
section
variable {X : Cx} {B : Bs} {e : Expr} {es : List Expr} {UA : XA} {pos p : Pos} {L : LamI} {S : List D → FS} {k k' : Nat} {x : Str}
theorem fnAt_obx {H : Hp} {pins : List (Addr × Obj)} {σ : L2.St} {s : Shared} {f c : Addr} {cl : List (Str × Addr)} {pm ctv : Value} (I : Inv X pins σ H s) (h : H f = some (ObX f (PySem.W.kla_obj "<lambda>" L.qual L.params L.body L.scope cl pm c ctv))) : PySem.W.FnAt f s.heap := by
  have e := (I.hok f _ h).1
  exact ⟨_, _, _, _, e⟩
def tCallF (K : PySem.W.Frag) (dn : Dn) (L : LamI) (S : List D → FS) (i : Nat) (t : TA) : TE := fun σ H Q => ∃ f c cl pm ctv, σ[i]? = some (some (.ref f)) ∧ H f = some (ObX f (PySem.W.kla_obj "<lambda>" L.qual L.params L.body L.scope cl pm c ctv)) ∧
  t σ H fun vs H1 => H1 f = some (ObX f (PySem.W.kla_obj "<lambda>" L.qual L.params L.body L.scope cl pm c ctv)) ∧ spOf K dn (lamFS L S) (.ref f :: vs) H1 Q E0
theorem pe_callF {i : Nat} {dn : Dn} {t : TA} (C : LamP X.prog X.w X.K X.mg X.base dn k L S) (hr : Room k' X.A) (hgd : X.A.guards = some []) (hk : k ≤ k') (hN : X.N[i]? = some x) (hv : Vis X.env.scope x) (ha : PA X (e :: es) t)
    (hd : (x == ("__debug__" : Str)) = false := by decide) (hcd : (x == ("__classdict__" : Str)) = false := by decide)
    (he : starEach (e :: es) X.env = (false, eval e X.env) :: starEach es X.env := by rfl) (hpl : (backTo pos (starEach es X.env)).any (·.1) = false := by rfl) :
    PE X (.Call (.Name x p) (e :: es) [] pos) (tCallF X.K dn L S i t) := by
  refine ⟨fun pins s σ H Q I h => ?_⟩
  obtain ⟨f, c, cl, pm, ctv, hs, hf, ht⟩ := h
  refine wpAny_Call_Name_kw (thn ((pe_var (pos := p) hN hv hd hcd).run pins s σ H (fun v H1 => v = .ref f ∧ H1 = H) I ⟨.ref f, hs, rfl, rfl⟩) fun u s1 ⟨v, H1, I1, r1, q1⟩ => ?_)
  obtain ⟨ev, eH⟩ := q1
  subst ev
  rw [eH] at I1
  obtain rfl : u = Value.ref f := r1
  refine PySem.W.callWith_F (first := []) (fnAt_obx I1 hf) (thn (ha.run pos pins s1 σ H _ I1 ht) fun us s2 ⟨vs, H2, I2, r, h1, q⟩ => ⟨fnAt_obx I2 h1, ?_⟩) he hpl
  show wpAny _ _ (call (.ref f) us) _ _ _
  refine wpAny_call (codeAny_mono (C X.A X.stack s2 H2 f us vs Q (hr.mono hk) hgd I2.env0 r q) fun r s' hq => ?_)
  cases r with
  | error e => exact hq.elim
  | ok fl =>
    cases fl with
    | ret u => exact I2.after hq
    | next => exact False.elim hq
    | brk => exact False.elim hq
    | cont => exact False.elim hq
@[simp] def xCallF (i : Nat) (L : LamI) (S : List D → FS) (U : XA) : XE := fun γ K => ∃ ds, γ[i]? = some (.fn L ds) ∧ U γ fun cs => S ds cs K
theorem LamP.de {i : Nat} (C : LamP X.prog X.w X.K X.mg X.base B.dn k L S) (hr : Room k' X.A) (hgd : X.A.guards = some []) (hk : k ≤ k') (ha : DA X B (e :: es) UA) (hN : X.N[i]? = some x := by rfl) (hv : Vis X.env.scope x := by first | exact Or.inl rfl | exact Or.inr (Or.inl rfl) | exact Or.inr (Or.inr rfl))
    (hd : (x == ("__debug__" : Str)) = false := by decide) (hcd : (x == ("__classdict__" : Str)) = false := by decide)
    (he : starEach (e :: es) X.env = (false, eval e X.env) :: starEach es X.env := by rfl) (hpl : (backTo pos (starEach es X.env)).any (·.1) = false := by rfl) : DE X B (.Call (.Name x p) (e :: es) [] pos) (xCallF i L S UA) :=
  pe_imp (pe_callF C hr hgd hk hN hv ha hd hcd he hpl) fun σ H Q ⟨γ, F, Q', R, ⟨ds, ei, hU⟩, kk⟩ _ => by
    obtain ⟨v, f, h1, h2, h3, h4⟩ := R.get ei (by intro z; cases z)
    cases h2 with
    | @fn fa c cl pm ctv _ _ hf hc cap =>
      have gk : Gives X.K B F H Q' Q := kk
      exact ⟨fa, c, cl, pm, ctv, h1, R.sub _ _ hf, γ, F, _, R, hU, fun vs F1 H1 cs fp g crs nd fr q => ⟨g.sub _ _ (g.ff _ _ hf),
        call_core (S := lamFS L S) (cs := .fn L ds :: cs) (fp := fp) R gk g (CRs.cons (f := []) (.fn (g.ff _ _ hf) (g.ff _ _ hc) (cap.mono g.ff)) crs) nd fr ⟨ds, cs, rfl, q⟩⟩⟩
theorem lam_make {T : List (Addr × Str)} {c P : Addr} {params : Arguments} {body : Expr} {scope : Scope} {pins : List (Addr × Obj)} {σ : L2.St} {H : Hp} {s : Shared} {E : Value → Shared → Prop} {Q : Value → Shared → Prop} (I : Inv X pins σ H s) (TB : LamX.TabB X.base X.mg c P) (hcode : X.env.code = .ref c)
    (hm : (P, X.env.qual ++ "<lambda>") ∈ T) (hu : ∀ p ∈ T, p.1 = P → p.2 = X.env.qual ++ "<lambda>") (hT : LamX.Tabs T H) (hdef : defaultsOf params X.env = ([], [])) (hfree : ∀ y ∈ scope.names, y.2 = .free → ∃ c, X.env.cells.lookup y.1 = some c)
    (h : ∀ (f c' : Addr) (pm ctv : Value) (H1 : Hp) (s' : Shared), Inv X pins σ H1 s' → (H1 = H ∨ ∃ ps more, H P = some (.tbl ps) ∧ H c' = none ∧ H1 = upd (upd H P (.tbl (ps ++ more))) c' (LamX.CodeO c' (X.env.qual ++ "<lambda>"))) → LamX.Tabs T H1 →
      s'.heap.get? f = some (PySem.W.kla_obj "<lambda>" (X.env.qual ++ "<lambda>") params body scope (cloFrom X.env.cells scope.names []) pm c' ctv) → H1 f = none → s.heap.objs.size ≤ f → H1 c' = some (LamX.CodeO c' (X.env.qual ++ "<lambda>")) → Q (.ref f) s') :
    wpAny (model X.prog X.w) X.A (eval (.Lambda params body scope pos) X.env) Q E s := by
  obtain ⟨ps, hP, ht, ha⟩ := hT _ hm
  refine PySem.W.kla_eval hdef ?_
  have bP : s.heap.BuiltinsAt X.mg P := TB.bm.keeps I.bk
  have hP' : s.heap.get? P = some { cls := .none, data := .fields ps } := I.hok P _ hP
  cases hc : codeAmong pos ps.toList with
  | none =>
    refine PySem.W.kla_makeFunction (mg := X.mg) (c := c) (P := P) (ps := ps) (closure_ok hfree) I.ok.glob (I.mod.glob.keeps I.bk) hcode (TB.code.keeps I.bk) hP' ht hc TB.gP bP fun c' ctv h' tk hx hge hlt hrec htb => ?_
    obtain ⟨c2, oc, vs, t, e2, hoc, hd, hv⟩ := hrec
    cases e2
    have hsz : s.heap.objs.size ≤ h'.objs.size := Nat.le_trans hge (Nat.le_of_lt hlt)
    have nC : H c' = none := I.hok.fresh hge
    have I1 := LamX.inv_table (t' := tk) (more := #[rawInt pos.line, rawInt pos.col, .ref c']) (h' := h'.push (PySem.W.kla_obj "<lambda>" (X.env.qual ++ "<lambda>") params body scope (cloFrom X.env.cells scope.names []) ((X.mg "__name__").getD .none) c' ctv)) I hP
      (fun b o hb e => Heap.get?_push_of_some _ (hx b o hb e)) (Heap.get?_push_of_some _ htb) hge ⟨oc, vs, t, Heap.get?_push_of_some _ hoc, hd, hv⟩
    have eL : (ps ++ #[rawInt pos.line, rawInt pos.col, .ref c']).toList = ps.toList ++ [rawInt pos.line, rawInt pos.col, .ref c'] := by simp
    have stay : ∀ b q, H b = some (LamX.CodeO b q) → upd (upd H P (.tbl (ps ++ #[rawInt pos.line, rawInt pos.col, .ref c']))) c' (LamX.CodeO c' (X.env.qual ++ "<lambda>")) b = some (LamX.CodeO b q) := fun b q e => by
      rw [upd_ne (ne_of_none e nC), upd_ne (ne_of e hP fun z => LamX.codeO_ne ps z)]
      exact e
    refine h h'.objs.size c' ((X.mg "__name__").getD .none) ctv _ _ I1 (.inr ⟨ps, _, hP, nC, rfl⟩) (fun p hp => ?_) (Heap.get?_push_size _ rfl) ?_ hsz upd_same
    · by_cases hb : p.1 = P
      · rw [hu p hp hb, hb]
        refine ⟨_, by rw [upd_ne (ne_of_none hP nC), upd_same], by rw [eL]; exact PySem.TriplesOk_snoc _ _ _ _ ht, fun p' cv hcv => ?_⟩
        rw [eL] at hcv
        rcases LamX.among_app _ ht hcv with z | z
        · obtain ⟨c0, e1, e2⟩ := ha p' cv z
          exact ⟨c0, e1, stay _ _ e2⟩
        · exact ⟨c', z, upd_same⟩
      · obtain ⟨ps', a1, a2, a3⟩ := hT p hp
        refine ⟨ps', by rw [upd_ne (ne_of_none a1 nC), upd_ne hb]; exact a1, a2, fun p' cv hcv => ?_⟩
        obtain ⟨c0, e1, e2⟩ := a3 p' cv hcv
        exact ⟨c0, e1, stay _ _ e2⟩
    · have n1 : h'.objs.size ≠ c' := Nat.ne_of_gt hlt
      have n2 : h'.objs.size ≠ P := Nat.ne_of_gt (Nat.lt_of_lt_of_le (Heap.lt_size hP') hsz)
      rw [upd_ne n1, upd_ne n2]
      exact I.hok.fresh hsz
  | some cv =>
    obtain ⟨c', e, hco⟩ := ha pos cv hc
    subst e
    refine PySem.W.kla_makeFunctionHit (mg := X.mg) (c := c) (P := P) (ps := ps) (closure_ok hfree) I.ok.glob (I.mod.glob.keeps I.bk) hcode (TB.code.keeps I.bk) hP' ht hc bP fun ctv h' tk hx hsz => ?_
    have I1 : Inv X pins σ H { s with heap := h'.push (PySem.W.kla_obj "<lambda>" (X.env.qual ++ "<lambda>") params body scope (cloFrom X.env.cells scope.names []) ((X.mg "__name__").getD .none) c' ctv), toks := tk } := I.kept fun b o e => Heap.get?_push_of_some _ (hx b o e)
    exact h h'.objs.size c' ((X.mg "__name__").getD .none) ctv H _ I1 (.inl rfl) hT (Heap.get?_push_size _ rfl) (I.hok.fresh hsz) hsz hco
/-- what the making does to the frame -/
theorem go_make {F H H1 : Hp} {P c' : Addr} {q : Str} {γ : List Cell} {σ : L2.St} (R : Rel X.K B γ F H σ) (hm : P ∈ B.dn.tb.map (·.1)) (hT : LamX.Tabs B.dn.tb H1) (h : H1 = H ∨ ∃ ps more, H P = some (.tbl ps) ∧ H c' = none ∧ H1 = upd (upd H P (.tbl (ps ++ more))) c' (LamX.CodeO c' q)) : Go B F H F H1 := by
  rcases h with e | ⟨ps, more, hP, nC, e⟩
  · subst e; exact R.refl
  · subst e
    have mP : P ∈ B.ms := List.mem_append_left _ hm
    have at_ : ∀ {a o}, a ≠ P → H a = some o → upd (upd H P (.tbl (ps ++ more))) c' (LamX.CodeO c' q) a = some o := fun {a o} n e => by rw [upd_ne (ne_of_none e nC), upd_ne n]; exact e
    refine ⟨Same.refl F, fun a o m e => at_ (fun z => m (z ▸ mP)) e, fun a e _ => e, fun a o e => at_ (fun z => ?_) (R.sub a o e), hT, ?_⟩
    · have := R.mf P mP
      rw [z, this] at e; cases e
    · have d := R.dk.2
      unfold DeckP at d ⊢
      cases ed : B.da with
      | none => trivial
      | some p =>
        obtain ⟨x, y⟩ := p
        rw [ed] at d
        obtain ⟨ne, ns, mm, t, h1, h2, h3⟩ := d
        exact ⟨ne, ns, mm, t, at_ (ne_of h1 hP fun z => by cases z) h1, at_ (ne_of h2 hP fun z => by cases z) h2, h3⟩
theorem inv_pin {pins : List (Addr × Obj)} {σ : L2.St} {H : Hp} {s : Shared} {f : Addr} {o : Obj} (I : Inv X pins σ H s) (e : s.heap.get? f = some o) (n : H f = none) (n1 : f ≠ X.env.locals) (n2 : f ∉ X.fs) (n3 : ∀ v, o.data ≠ .cell v) : Inv X ((f, o) :: pins) σ H s := by
  refine ⟨I.ok, I.os, I.bare, I.base, I.loc, I.cell, I.free, I.freeC, fun p hp => ?_, I.hok, I.len⟩
  rcases List.mem_append.mp hp with m | m
  · exact I.pin p (List.mem_append_left _ m)
  · rcases List.mem_cons.mp m with z | m
    · subst z; exact ⟨e, n, n1, n2, n3⟩
    · exact I.pin p (List.mem_append_right _ m)
theorem inv_unpin {pins : List (Addr × Obj)} {σ : L2.St} {H : Hp} {s : Shared} {q : Addr × Obj} (I : Inv X (q :: pins) σ H s) : Inv X pins σ H s := by
  refine ⟨I.ok, I.os, I.bare, I.base, I.loc, I.cell, I.free, I.freeC, fun p hp => ?_, I.hok, I.len⟩
  rcases List.mem_append.mp hp with m | m
  · exact I.pin p (List.mem_append_left _ m)
  · exact I.pin p (List.mem_append_right _ (List.mem_cons_of_mem _ m))
end
end DL
set_option maxHeartbeats 1000000
namespace DL
open PySem PySem.Spec PyProof.Rows L2
section
variable {K : PySem.W.Frag} {F F' : Hp}
mutual
theorem dp_sub (k : ∀ a o, F a = some o → (∀ φ, o ≠ .ext φ) → F' a = some o) : ∀ {v : V} {d : D}, Dp K F v d → Dp K F' v d
  | _, _, .non => .non
  | _, _, .bl b => .bl b
  | _, _, .int i => .int i
  | _, _, .str x => .str x
  | _, _, .lst h hs => .lst (by
      rcases h with (h | ⟨o, h⟩) | h
      · exact .inl (.inl (k _ _ h fun φ z => by cases z))
      · exact .inl (.inr ⟨o, k _ _ h fun φ z => by cases z⟩)
      · exact .inr h) (dpAll_sub k hs)
  | _, _, .tup h hs => .tup (by
      rcases h with (h | ⟨o, h⟩) | h
      · exact .inl (.inl (k _ _ h fun φ z => by cases z))
      · exact .inl (.inr ⟨o, k _ _ h fun φ z => by cases z⟩)
      · exact .inr h) (dpAll_sub k hs)
theorem dpAll_sub (k : ∀ a o, F a = some o → (∀ φ, o ≠ .ext φ) → F' a = some o) : ∀ {vs : List V} {ds : List D}, DpAll K F vs ds → DpAll K F' vs ds
  | _, _, .nil => .nil
  | _, _, .cons h hs => .cons (dp_sub k h) (dpAll_sub k hs)
end
end
theorem code_ne {h : Heap} {b : Addr} {q : Str} {o : Obj} (e : h.get? b = some o) (n : ∀ vs, o.data ≠ .fields vs) : LamX.CodeO b q ≠ ObX b o := fun z => by
  have z1 : (fun h : Heap => ∃ (oc : Obj) (vs : Array Value) (t : Tok), h.get? b = some oc ∧ oc.data = .fields vs ∧ vs[1]? = some (.str q t)) = fun h : Heap => h.get? b = some o := by
    have := z
    unfold LamX.CodeO ObX at this
    injection this
  have z2 : ∃ (oc : Obj) (vs : Array Value) (t : Tok), h.get? b = some oc ∧ oc.data = .fields vs ∧ vs[1]? = some (.str q t) := by
    have := congrFun z1 h
    rw [this]; exact e
  obtain ⟨oc, vs, t, g1, g2, _⟩ := z2
  rw [e] at g1
  cases g1
  exact n _ g2
section
variable {X : Cx} {B : Bs} {es : List Expr} {UA : XA} {pos p lpos : Pos} {S : FS} {k k' : Nat} {x : Str} {st : Stmt} {ps fr : List Str} {js : List Nat} {params : Arguments} {body : Expr} {scope : Scope} {c P : Addr}
/-- the captured slots' data -/
@[simp] def xCallL (S : FS) (L : LamI) (js : List Nat) (U : XA) : XE := fun γ K => ∃ ds : List D, js.map (fun j => γ[j]?) = ds.map (fun d => some (Cell.im d)) ∧ U γ fun cs => S (.fn L ds :: cs) fun c => (∃ d, c = .im d) ∧ K c
theorem Cal.deL (C : Cal X.prog X.w X.K X.mg X.base B.dn k x st ps S) (hr : Room k' X.A) (hgd : X.A.guards = some []) (hk : k ≤ k') (hg : Gl X x) (TB : LamX.TabB X.base X.mg c P) (hcode : X.env.code = .ref c) (hmT : (P, X.env.qual ++ "<lambda>") ∈ B.dn.tb) (hu : ∀ p ∈ B.dn.tb, p.1 = P → p.2 = X.env.qual ++ "<lambda>")
    (hdef : defaultsOf params X.env = ([], [])) (hfree : ∀ y ∈ scope.names, y.2 = .free → X.env.scope.names.lookup y.1 = some .cell ∨ X.env.scope.names.lookup y.1 = some .free) (hfr : ∀ y ∈ fr, (y, NameKind.free) ∈ scope.names) (hfr2 : ∀ y ∈ scope.names, y.2 = .free → y.1 ∈ fr)
    (hjs : js.map (fun j => X.N[j]?) = fr.map some) (hfn : ∀ y, X.fn y = true) (ha : DA X B es UA) (hdb : (x == ("__debug__" : Str)) = false := by decide)
    (he : starEach (.Lambda params body scope lpos :: es) X.env = (false, eval (.Lambda params body scope lpos) X.env) :: starEach es X.env := by rfl) (hpl : (backTo pos (starEach es X.env)).any (·.1) = false := by rfl) :
    DE X B (.Call (.Name x p) (.Lambda params body scope lpos :: es) [] pos) (xCallL S ⟨X.env.qual ++ "<lambda>", params, body, scope, fr⟩ js UA) := by
  obtain ⟨nm, fc, fd, hm, Fp, hb, hF⟩ := C.ex
  refine ⟨fun pins s σ H Q I ⟨γ, F, Q', R, ⟨ds, hds, hU⟩, kk⟩ => ?_⟩
  have hfree' : ∀ y ∈ scope.names, y.2 = .free → ∃ c, X.env.cells.lookup y.1 = some c := fun y hy e => (hfree y hy e).elim (fun z => I.ok.has _ (.inl z)) fun z => I.ok.has _ (.inr z)
  refine wpAny_Call_Name_kw (ld_glob I hg hm ?_ hdb)
  refine PySem.W.callWith_K (h₀ := X.base) I.ok.mod.kin Fp.kp ?_ he hpl
  rw [he]
  show wpAny _ _ (spliced ((false, eval (.Lambda params body scope lpos) X.env) :: backTo pos (starEach es X.env))) _ _ s
  refine Calls.spliced_cons (lam_make (T := B.dn.tb) I TB hcode hmT hu R.dk.1 hdef hfree' fun f c' pm ctv H1 s1 I1 hH1 T1 hf hfn' hfs hco => ?_)
  have g1 := go_make R (List.mem_map.mpr ⟨_, hmT, rfl⟩) T1 hH1
  have R1 := R.step g1
  have hfl : f ≠ X.env.locals := fun z => by
    have := I.lt
    rw [← z] at this
    exact absurd (Nat.lt_of_lt_of_le this hfs) (Nat.lt_irrefl _)
  have hffs : f ∉ X.fs := I.nofs hfs
  have I1p := inv_pin I1 hf hfn' hfl hffs (fun v z => by cases z)
  refine thn (ha.run pos _ s1 σ H1 (fun vs H2 => ∃ F2 cs fp, Go B F H1 F2 H2 ∧ CRs X.K B.dd F2 H2 vs cs fp ∧ fp.Nodup ∧ (∀ a ∈ fp, H1 a = none ∧ F2 a = none) ∧ S (.fn ⟨X.env.qual ++ "<lambda>", params, body, scope, fr⟩ ds :: cs) fun c => (∃ d, c = .im d) ∧ Q' c) I1p
    ⟨γ, F, _, R1, hU, fun vs F2 H2 cs fp g crs nd fr q => ⟨F2, cs, fp, g, crs, nd, fr, q⟩⟩) fun us s2 ⟨vs, H2, I2p, r, F2, cs, fp, g2, crs, nd, frs2, hS⟩ => ⟨I2p.kIn, ?_⟩
  have I2 := inv_unpin I2p
  obtain ⟨pf1, pf2, pf3, pf4, _⟩ := I2p.pin (f, _) (List.mem_append_right _ List.mem_cons_self)
  have R2 := R1.step g2
  have cap := NdefX.cells_of I2 (NdefX.Caps.made (scope := scope) (fr := fr) (js := js) I2.ok hfree hfr hjs)
  let cl := cloFrom X.env.cells scope.names []
  let ob := PySem.W.kla_obj "<lambda>" (X.env.qual ++ "<lambda>") params body scope cl pm c' ctv
  have capAll : ∀ y a, cl.lookup y = some a → H2 a = none ∧ ∃ v, s2.heap.IsCell a v := cap.all
  have clm : ∀ y a, cl.lookup y = some a → X.env.cells.lookup y = some a := fun y a e => NdefX.clo_cm hfree' e
  obtain ⟨Cc, hCc⟩ : ∃ Cc : Addr → Option Obj, ∀ a o, Cc a = some o ↔ (a = f ∧ o = ob) ∨ (a ≠ f ∧ (∃ y, cl.lookup y = some a) ∧ s2.heap.get? a = some o) := by
    classical
    refine ⟨fun a => if a = f then some ob else if ∃ y, cl.lookup y = some a then s2.heap.get? a else none, fun a o => ?_⟩
    by_cases h1 : a = f
    · simp [h1, eq_comm]
    · by_cases h2 : ∃ y, cl.lookup y = some a
      · simp only [h1, h2, if_true, if_false]
        constructor
        · intro z; exact .inr ⟨h1, trivial, z⟩
        · rintro (⟨z, _⟩ | ⟨_, _, z⟩)
          · exact z.elim
          · exact z
      · simp [h1, h2]
  have kC : ∀ a o, Cc a = some o → H2 a = none ∧ s2.heap.get? a = some o := fun a o e => by
    rcases (hCc a o).mp e with ⟨rfl, rfl⟩ | ⟨_, ⟨y, hy⟩, e2⟩
    · exact ⟨pf2, pf1⟩
    · exact ⟨(capAll y a hy).1, e2⟩
  have kD : ∀ a o, Cc a = some o → ∀ vs, o.data ≠ .fields vs := fun a o e vs z => by
    rcases (hCc a o).mp e with ⟨rfl, rfl⟩ | ⟨_, ⟨y, hy⟩, e2⟩
    · cases z
    · obtain ⟨v, o', ho, hd⟩ := (capAll y a hy).2
      rw [e2] at ho; cases ho
      rw [hd] at z; cases z
  have kB : ∀ a o, Cc a = some o → X.base.get? a = none ∧ a ∉ frs X.stack := fun a o e => by
    rcases (hCc a o).mp e with ⟨rfl, rfl⟩ | ⟨_, ⟨y, hy⟩, e2⟩
    · refine ⟨?_, fun z => ?_⟩
      · cases eb : X.base.get? a with
        | none => rfl
        | some o => exact absurd (Nat.lt_of_lt_of_le (Heap.lt_size (I.bs a o eb).1) hfs) (Nat.lt_irrefl _)
      · rcases List.mem_cons.mp (I2.stkSub _ z) with e | e
        · exact pf3 e
        · exact pf4 e
    · have hc := clm y a hy
      have ge := I2.ok.cab y a (hfn y) hc
      refine ⟨?_, fun z => ?_⟩
      · cases eb : X.base.get? a with
        | none => rfl
        | some o => exact absurd (Nat.lt_of_lt_of_le (Heap.lt_size eb) (Nat.le_trans I2.ok.bsz ge)) (Nat.lt_irrefl _)
      · rcases List.mem_cons.mp (I2.stkSub _ z) with e | e
        · exact I2.cne y a hc e
        · obtain ⟨_, o', ho, _⟩ := I2.ok.funs.mem e
          exact absurd (Nat.lt_of_lt_of_le (Heap.lt_size ho) ge) (Nat.lt_irrefl _)
  have nc : ∀ {b y}, H2 b = some y → Cc b = none := fun {b y} q => cOut fun o z => by rw [(kC b o z).1] at q; cases q
  have hco2 : H2 c' = some (LamX.CodeO c' (X.env.qual ++ "<lambda>")) := g2.hh _ _ (fun m => R1.dk.noext _ m _ hco) hco
  let G2 : Hp := upd F2 c' (LamX.CodeO c' (X.env.qual ++ "<lambda>"))
  have sG : Same F2 G2 := fun a o e => by
    by_cases z : a = c'
    · subst z
      have := R2.sub _ _ e
      rw [hco2] at this
      cases this
      exact upd_same
    · rw [show G2 a = F2 a from upd_ne z]; exact e
  have sGH : Same G2 H2 := fun a o e => by
    by_cases z : a = c'
    · subst z
      rw [show G2 a = some _ from upd_same] at e
      cases e; exact hco2
    · rw [show G2 a = F2 a from upd_ne z] at e
      exact R2.sub _ _ e
  have sA : Same (addC Cc G2) (addC Cc H2) := fun a o e => by
    cases ca : Cc a with
    | some q => rw [addC_in ca] at e ⊢; exact e
    | none => rw [addC_out ca] at e ⊢; exact sGH _ _ e
  have sFA : Same F2 (addC Cc G2) := fun a o e => by
    rw [addC_out (nc (R2.sub _ _ e))]; exact sG _ _ e
  have ncm : ∀ {a}, a ∈ B.ms → Cc a = none := fun {a} m => by
    obtain ⟨o, e⟩ := R2.dk.there a m
    exact nc e
  have dkA : DeckOk B (addC Cc H2) := R2.dk.keep (fun a m => addC_out (ncm m)) fun a q e => by rw [addC_out (nc e)]; exact e
  have fpC : ∀ a ∈ fp, Cc a = none ∧ a ≠ c' ∧ H2 a ≠ none := fun a m => by
    obtain ⟨o, e⟩ := crs.there a m
    refine ⟨nc e, fun z => ?_, by rw [e]; exact fun z => by cases z⟩
    subst z
    exact crs.noext _ m _ hco2
  have fp0 : ∀ a ∈ fp, H a = none := fun a m => g1.none (frs2 a m).1
  have crs' : CRs X.K B.dd (addC Cc G2) (addC Cc H2) (.ref f :: vs) (.fn ⟨X.env.qual ++ "<lambda>", params, body, scope, fr⟩ ds :: cs) ([] ++ fp) := by
    refine .cons (.fn (pm := pm) (ctv := ctv) (cl := cl) (c := c') (addC_in ((hCc f ob).mpr (.inl ⟨rfl, rfl⟩))) ?_ ⟨?_, fun y z a e1 e2 => I2.ok.inj y z a (clm y a e1) (clm z a e2), fun i y hy => ?_, fun y a e => ?_⟩) (crs.mono sFA fun a m o e => by rw [addC_out (nc e)]; exact e)
    · rw [addC_out (nc hco2)]; exact upd_same
    · have l1 := congrArg List.length hjs
      have l2 := congrArg List.length hds
      rw [List.length_map, List.length_map] at l1 l2
      show ds.length = fr.length
      omega
    · obtain ⟨a, ha1, ha2⟩ := cap.has i y hy
      have hi : (js.map fun j => X.N[j]?)[i]? = some (some y) := by rw [hjs, List.getElem?_map, hy]; rfl
      rw [List.getElem?_map] at hi
      cases ej : js[i]? with
      | none => rw [ej] at hi; cases hi
      | some j =>
        have hd : (js.map fun j => γ[j]?)[i]? = some (γ[j]?) := by rw [List.getElem?_map, ej]; rfl
        rw [hds, List.getElem?_map] at hd
        cases ed : ds[i]? with
        | none => rw [ed] at hd; cases hd
        | some d =>
          rw [ed] at hd
          have eg : γ[j]? = some (.im d) := (Option.some.inj hd).symm
          obtain ⟨v, ff, h1, h2, _, _⟩ := R2.get eg (by intro z; cases z)
          obtain ⟨u, ru, o, ho, hdta⟩ := ha2 v (by rw [List.getElem?_map, ej]; show some (NdefX.slotAt σ j) = _; rw [NdefX.slotAt_of h1])
          have naf : a ≠ f := fun z => by
            rw [z, pf1] at ho
            cases ho
            cases hdta
          have ca : Cc a = some o := (hCc a o).mpr (.inr ⟨naf, ⟨y, ha1⟩, ho⟩)
          cases h2 with
          | im h2 => exact ⟨a, v, d, o, u, ha1, rfl, Dp.mono sFA h2, addC_in ca, hdta, ru⟩
    · rcases cloFrom_mem (PySem.mem_of_lookup e) with z | ⟨z, _⟩
      · cases z
      · exact hfr2 _ z rfl
  rw [List.nil_append] at crs'
  have hl : (vs.length + 1) = ps.length := by
    have := hF.len (.ref f :: vs) (addC Cc H2) (fun _ _ => True) E0 ⟨addC Cc G2, B.da, _, fp, _, sA, dkA, fun a m => ⟨by rw [addC_out (ncm m)]; rw [show G2 a = F2 a from upd_ne fun z => R2.dk.noext a m _ (z ▸ hco2)]; exact R2.mf a m, fun z => not_ms R1.dk (frs2 a z).1 m⟩, crs', nd, fun a m => by
      rw [addC_out (fpC a m).1, show G2 a = F2 a from upd_ne (fpC a m).2.1]; exact (frs2 a m).2, hS, fun _ _ _ _ _ _ => trivial⟩
    simpa using this
  have r' : Vals (.ref f :: vs) (.ref f :: us) := .cons rfl r
  have hrun := hF.run X.A X.stack s2 (addC Cc H2) ⟨.ref f :: us, []⟩ (.ref f :: us) (.ref f :: vs) (fun v H' => InC Cc H' ∧ (SzH X.K (noC Cc H') → Q v (noC Cc H'))) E0 (hr.mono hk) hgd (env_add I2.env0 kC kB)
    (by
      have := hb s2 (.ref f :: us) I2.kIn (by rw [List.append_nil, List.length_cons, ← r.length]; exact hl)
      rwa [List.append_nil] at this) r' ⟨addC Cc G2, B.da, _, fp, _, sA, dkA, fun a m => ⟨by rw [addC_out (ncm m)]; rw [show G2 a = F2 a from upd_ne fun z => R2.dk.noext a m _ (z ▸ hco2)]; exact R2.mf a m, fun z => not_ms R1.dk (frs2 a z).1 m⟩, crs', nd, fun a m => by
      rw [addC_out (fpC a m).1, show G2 a = F2 a from upd_ne (fpC a m).2.1]; exact (frs2 a m).2, hS, fun v F' H' cc ⟨go, fp', cr, nd', fr'⟩ ⟨⟨d, ed⟩, q⟩ => ?_⟩
  · refine wpAny_call (codeAny_mono hrun fun r s' hq => ?_)
    cases r with
    | error e => exact hq.elim
    | ok fl =>
      cases fl with
      | ret u =>
        have e := I2.after (ce_no (Q := fun v H' => SzH X.K H' → Q v H') kC hq fun v H1 q => q)
        obtain ⟨v, H', I', r', q'⟩ := e
        exact ⟨v, H', I', r', q' (inv_sz I')⟩
      | next => exact False.elim hq
      | brk => exact False.elim hq
      | cont => exact False.elim hq
  · subst ed
    cases cr with
    | im hd =>
      have nfp : ∀ {a}, H2 a = none → a ∉ fp := fun h m => (fpC _ m).2.2 h
      have inC : InC Cc H' := fun a o e => by
        refine go.hh a _ (fun m => ?_) ?_
        · rw [ncm m] at e; cases e
        · show exc (addC Cc H2) fp a = _
          rw [exc_out (nfp (kC a o e).1)]
          exact addC_in e
      refine ⟨inC, fun sz => ?_⟩
      have step : ∀ {a o}, F2 a = some o → F' a = some o := fun {a o} e => go.ff _ _ (sFA _ _ e)
      classical
      let Fm : Hp := fun a => if (Cc a).isSome ∨ (a = c' ∧ F2 a = none) then none else F' a
      have fm_out : ∀ {a}, Cc a = none → ¬(a = c' ∧ F2 a = none) → Fm a = F' a := fun {a} h1 h2 => by
        show (if (Cc a).isSome ∨ (a = c' ∧ F2 a = none) then none else F' a) = F' a
        rw [if_neg]
        rintro (z | z)
        · rw [h1] at z; cases z
        · exact h2 z
      have fm_some : ∀ {a o}, Fm a = some o → F' a = some o ∧ Cc a = none := fun {a o} e => by
        have e' : (if (Cc a).isSome ∨ (a = c' ∧ F2 a = none) then none else F' a) = some o := e
        split at e'
        · cases e'
        · rename_i h
          refine ⟨e', ?_⟩
          cases ca : Cc a with
          | none => rfl
          | some q => exact absurd (.inl (by rw [ca]; rfl)) h
      refine kk v Fm (noC Cc H') (.im d) [] ⟨fun a o e => ?_, fun a o m e => ?_, fun a e n => ?_, fun a o e => ?_, ?_⟩ sz (.im (dp_sub (fun a o e n => ?_) hd)) List.nodup_nil (fun _ m => nomatch m) q
      · have e2 := g2.ff _ _ (g1.ff _ _ e)
        rw [fm_out (nc (R2.sub _ _ e2)) fun z => by rw [e2] at z; cases z.2]
        exact step e2
      · have e1 := g1.hh a o m e
        have e2 := g2.hh a o m e1
        rw [noC_out (nc e2)]
        refine go.hh a o m ?_
        show exc (addC Cc H2) fp a = _
        rw [exc_out (fun z => by rw [(frs2 a z).1] at e1; cases e1), addC_out (nc e2)]
        exact e2
      · have n1 := g1.there n
        have n2 := g2.there n1
        have f2 := g2.nw a (g1.nw a e n) n1
        have ca : Cc a = none := by
          cases eh : H2 a with
          | none => exact absurd eh n2
          | some o => exact nc eh
        by_cases z : a = c'
        · show (if (Cc a).isSome ∨ (a = c' ∧ F2 a = none) then none else F' a) = none
          rw [if_pos (.inr ⟨z, f2⟩)]
        · rw [fm_out ca fun y => z y.1]
          refine go.nw a ?_ ?_
          · show addC Cc G2 a = none
            rw [addC_out ca, show G2 a = F2 a from upd_ne z]; exact f2
          · show exc (addC Cc H2) fp a ≠ none
            rw [exc_out fun y => n1 (frs2 a y).1, addC_out ca]; exact n2
      · obtain ⟨e1, ca⟩ := fm_some e
        rw [noC_out ca]; exact go.sub _ _ e1
      · refine DeckOk.keep (B := B) (H := H') go.dk (fun a m => noC_out (ncm m)) fun a q e => ?_
        rw [noC_out (cOut fun o z => ?_)]
        · exact e
        · have := inC a o z
          rw [e] at this
          exact code_ne (kC a o z).2 (kD a o z) (Option.some.inj this)
      · cases ca : Cc a with
        | some q =>
          have := go.ff a _ (show addC Cc G2 a = _ from addC_in ca)
          rw [e] at this
          exact absurd (Option.some.inj this) (n _)
        | none =>
          rw [fm_out ca]
          · exact e
          · rintro ⟨z, _⟩
            subst z
            have := go.ff a _ (show addC Cc G2 a = _ from (addC_out ca).trans upd_same)
            rw [e] at this
            exact absurd (Option.some.inj this) (n _)
end
end DL
set_option maxHeartbeats 1000000
namespace DL
open PySem PySem.Spec PyProof.Rows L2
/-- return f(lambda .., ..): the lambda -/
def lamArg (st : Stmt) : Expr := match st with
  | .Return (some (.Call _ (e :: _) _ _)) _ => e
  | _ => .Name "" ⟨0, 0, 0, 0⟩
def lamI (e : Expr) (qual : Str) (fr : List Str) : LamI := match e with
  | .Lambda p b s _ => ⟨qual, p, b, s, fr⟩
  | _ => ⟨qual, ⟨[], [], none, [], [], none, []⟩, .Name "" ⟨0, 0, 0, 0⟩, ⟨.function, [], false, false, []⟩, fr⟩
section
variable {P : Program} {w : World} {K : PySem.W.Frag} {mg : Str → Option Value} {base : Heap}
theorem fn_okC {x : Str} {st : Stmt} {f c : Addr} {fd : FuncData} {N ps : List Str} {k : Nat} {dn : Dn} {S : FS} {T : XS} (F : FnP K x st f fd) (hcd : fd.code = .ref c) (Sc : FnScope N ps (defScope st)) (len : ∀ cs K', S cs K' → cs.length = ps.length)
    (body : ∀ (A : Around) (outer : List Env) (s : Shared) (H : Hp) (E : XK) (B : Bs), B.dn = dn → Room k (A.deeper (envOfC x (defScope st) s.heap.objs.size f (.ref c))) → A.guards = some [] → DSs (cxOf CX0 P w K mg base N x (defScope st) f (.ref c) A outer s H E).nox B (defBody st) T)
    (main : ∀ cs K', S cs K' → T { nx := fun _ => K' (.im .none), rt := K' } (cs ++ List.replicate (N.length - cs.length) .un)) : FnG P w K mg base (k + 1) f fd ps (spOf K dn S) := by
  obtain ⟨oc, od, dV, kV, doc, pm, an, cdv, ct, osl, rfl, lk, hcdI, _, _⟩ := F.ex
  have ec : cdv = .ref c := hcd
  subst ec
  refine fnG_of lk hcdI Sc (fun vs H Q E ⟨F0, da, cs, fp, K', _, _, _, crs, _, _, hS, _⟩ => by rw [crs.length]; exact len cs K' hS) (fun A outer s H vs Q E hr hgd ⟨F0, da, cs, fp, K', sm, dk, mf, crs, nd, hF, hS, k1⟩ => ?_)
  refine ⟨_, (PSs.nox (body A outer s H E ⟨exc H fp, F0, da, dn⟩ rfl hr hgd)), ?_⟩
  have hl : cs.length = ps.length := len cs K' hS
  have dk' : DeckOk ⟨exc H fp, F0, da, dn⟩ H := dk
  have g0 : Go ⟨exc H fp, F0, da, dn⟩ F0 (exc H fp) F0 H := ⟨Same.refl _, fun a o _ e => by
    by_cases m : a ∈ fp
    · rw [exc_in m] at e; cases e
    · rwa [exc_out m] at e, fun a e _ => e, sm, dk'⟩
  have R : Rel K ⟨exc H fp, F0, da, dn⟩ (cs ++ List.replicate (N.length - cs.length) .un) F0 H (L2.start N vs) := by
    refine ⟨g0, fun a m => (mf a m).1, fun a m => ?_, fp, ?_, nd, fun a m => ⟨hF a m, exc_in m⟩⟩
    · show exc H fp a ≠ none
      rw [exc_out (mf a m).2]
      obtain ⟨o, e⟩ := dk.there a m
      rw [e]; exact fun z => by cases z
    · have := SlotsR.ofCRs (N.length - cs.length) crs
      unfold L2.start
      rw [crs.length]
      exact this
  exact ⟨_, F0, _, R, main cs K' hS, fun γ' F' σ' H' R' _ q => k1 .non F' H' (.im .none) ⟨R'.go, [], .im .non, List.nodup_nil, fun _ m => nomatch m⟩ q, fun _ _ _ _ _ _ z => z.elim, fun _ _ _ _ _ _ z => z.elim, fun v F' H' c fin q => k1 v F' H' c fin q⟩
end
end DL
set_option maxHeartbeats 1000000
namespace DL
open PySem PySem.Spec PyProof.Rows L2
def dkGet (k : Str) : TE := tDGet (tVar 0) (tC (.str k))
abbrev dAdd (a b : TE) : TE := tOp (rI0 fun i j => .int (i + j)) a b
abbrev dMul (a b : TE) : TE := tOp (rI CMul fun i j => .int (i * j)) a b
abbrev dMod (a b : TE) : TE := tOp (rI (fun _ j => 0 < j) fun i j => .int (i % j)) a b
abbrev dDiv (a b : TE) : TE := tOp (rI CDivW fun i j => .int (i / j)) a b
abbrev dI (i : Int) : TE := tC (.int i)
abbrev dInt (a : TE) : TE := tCB (fun xs H Q => (∃ i, xs = [.int i] ∧ Q (.int i) H) ∨ ∃ k, xs = [.bl k] ∧ Q (.int (if k then 1 else 0)) H) (tCons a tNil)
abbrev dMax (a b : TE) : TE := tCB (fun xs H Q => ∃ i j, xs = [.int i, .int j] ∧ Q (.int (if j > i then j else i)) H) (tCons a (tCons b tNil))
def t_draw (K : PySem.W.Frag) (k0 k1 k2 : Str) (c1 c2 c3 c4 c5 c6 c7 c8 c9 c10 : Int) : TS :=
  tSeq (sDPut (tVar 0) (tC (.str k2)) (dAdd (dkGet k2) (dI 1)))
  (tSeq (tAsg (dAdd (dkGet k1) (dMul (dI c1) (dkGet k2))) (gName 2))
  (tSeq (tIfS (tTest (tOp (rNeD K) (dkGet k0) (tLst tNil)))
    (tSeq (tAsg (tBM0 K "list" rPop (dkGet k0)) (gName 3))
    (tSeq (tIfS (tTest (tOp (rI0 fun i j => .bl (decide (j ≤ i))) (tVar 3) (tOp (rI CPow fun i j => .int (i ^ j.toNat)) (dI 10) (dI 18))))
      (tSeq (tDrop (tBM K "list" rAppend (dkGet k0) (tCons (dDiv (tVar 3) (dMax (dI 2) (tVar 1))) tNil)))
        (tRet (dMod (dInt (tVar 3)) (tVar 1)))) tNext)
      (tAsg (dAdd (tVar 2) (dMod (dInt (tVar 3)) (dI c2))) (gName 2)))) tNext)
  (tSeq (tAsg (dMod (dInt (dAdd (dMul (tVar 2) (dI c3)) (dI c4))) (dI c5)) (gName 2))
  (tSeq (tAsg (dMod (dInt (dAdd (dAdd (dMul (tVar 2) (tVar 2)) (dMul (dI c6) (dkGet k2))) (dI c7))) (dI c8)) (gName 2))
  (tSeq (tAsg (dMod (dInt (dMul (tVar 2) (dI c9))) (dI c10)) (gName 2))
    (tRet (dMod (dInt (dDiv (tVar 2) (dI 64))) (tVar 1))))))))
def S_draw : FS := fun cs K' => ∃ b : Int, cs = [.deck, .im (.int b)] ∧ 0 < b ∧ b.natAbs.log2 < 9000 ∧ ∀ r, 0 ≤ r → r < b → K' (.im (.int r))
theorem s_draw_len (cs : List Cell) (K' : Cell → Prop) (h : S_draw cs K') : cs.length = 2 := by
  obtain ⟨b, e, _⟩ := h
  subst e; rfl
/-- constants that are small -/
def drawB (c1 c2 c3 c5 c6 c8 c9 c10 : Int) : Prop := (0 < c1 ∧ c1 < 2 ^ 40) ∧ 0 < c2 ∧ (0 < c3 ∧ c3 < 2 ^ 40) ∧ (0 < c5 ∧ c5 < 2 ^ 40) ∧ (0 < c6 ∧ c6 < 2 ^ 40) ∧ 0 < c8 ∧ (0 < c9 ∧ c9 < 2 ^ 40) ∧ 0 < c10
theorem cmulR {i j : Int} (h : 0 < j ∧ j < 2 ^ 40) : CMul i j := .inr ⟨by omega, by omega⟩
theorem cmulL {i j : Int} (h : 0 < i ∧ i < 2 ^ 40) : CMul i j := .inl ⟨by omega, by omega⟩
theorem log_le {a b : Nat} (h : a ≤ b) : a.log2 ≤ b.log2 := by
  by_cases h0 : a = 0
  · subst h0; simp
  · exact (Nat.le_log2 (by omega)).mpr (Nat.le_trans (Nat.log2_self_le h0) h)
/-- the deck's dict, its list -/
structure DkH (k0 k1 k2 : Str) (H : Hp) (a c : Addr) (ns : List Int) (m t : Int) : Prop where
  d : H a = some (.dK [(.inr k0, .ref c), (.inr k1, .int m), (.inr k2, .int t)])
  l : H c = some (.lst (ns.map V.int))
section
variable {K : PySem.W.Frag} {k0 k1 k2 : Str} {H : Hp} {a c : Addr} {ns : List Int} {m t : Int} {σ : L2.St} {Q : VK}
theorem dk0 (h : DkH k0 k1 k2 H a c ns m t) (e : σ[0]? = some (some (.ref a))) (q : Q (.ref c) H) : dkGet k0 σ H Q :=
  ⟨_, e, a, _, rfl, .inl ⟨_, .inr k0, .inl h.d, rfl, by simp [valV]⟩, q⟩
theorem dk1 (n01 : k0 ≠ k1) (h : DkH k0 k1 k2 H a c ns m t) (e : σ[0]? = some (some (.ref a))) (q : Q (.int m) H) : dkGet k1 σ H Q :=
  ⟨_, e, a, _, rfl, .inl ⟨_, .inr k1, .inl h.d, rfl, by simp [valV, n01]⟩, q⟩
theorem dk2 (n02 : k0 ≠ k2) (n12 : k1 ≠ k2) (h : DkH k0 k1 k2 H a c ns m t) (e : σ[0]? = some (some (.ref a))) (q : Q (.int t) H) : dkGet k2 σ H Q :=
  ⟨_, e, a, _, rfl, .inl ⟨_, .inr k2, .inl h.d, rfl, by simp [valV, n02, n12]⟩, q⟩
end
theorem ints_dp {K : PySem.W.Frag} {H : Hp} : ∀ ns : List Int, DpAll K H (ns.map V.int) (ns.map PyData.int)
  | [] => .nil
  | n :: ns => .cons (.int n) (ints_dp ns)
theorem ints_shaped (ns : List Int) : SeqAt.shaped (.list (ns.map PyData.int)) = true := by
  have h1 : ∀ ns : List Int, PyData.canLayAll0 (ns.map PyData.int) = true := fun ns => by
    induction ns with
    | nil => rfl
    | cons n ns ih => simp [PyData.canLayAll0, PyData.canLay0, ih]
  have h2 : ∀ ns : List Int, PyData.depthAll (ns.map PyData.int) = 0 := fun ns => by
    induction ns with
    | nil => rfl
    | cons n ns ih => simp [PyData.depthAll, PyData.depth, ih]
  simp [SeqAt.shaped, PyData.canLay0, h1, PyData.depth, h2]
theorem draw_main {K : PySem.W.Frag} {k0 k1 k2 : Str} {c1 c2 c3 c4 c5 c6 c7 c8 c9 c10 : Int} (n01 : k0 ≠ k1) (n02 : k0 ≠ k2) (n12 : k1 ≠ k2) (hc : drawB c1 c2 c3 c5 c6 c8 c9 c10) (tb : List (Addr × Str)) (vs : List V) (H : Hp) (Q : VK)
    (h : spOf K ⟨(k0, k1, k2), tb⟩ S_draw vs H Q E0) : t_draw K k0 k1 k2 c1 c2 c3 c4 c5 c6 c7 c8 c9 c10 { nx := fun _ H' => Q .non H', rt := Q } (L2.start ["deck", "below", "figure", "cell"] vs) H := by
  obtain ⟨F0, da, cs, fp, K', sm, dk, mf, crs, nd, hF, ⟨b, e, hb, hb2, hK⟩, k1'⟩ := h
  subst e
  obtain ⟨hc1, hc2, hc3, hc5, hc6, hc8, hc9, hc10⟩ := hc
  obtain ⟨v, w, f1, f2, rfl, hv, hw⟩ := crs_two crs
  rw [hw.int]
  cases hv with
  | @deck a hda =>
    cases hd : da with
    | none => rw [hd] at hda; cases hda
    | some p =>
      obtain ⟨x, c⟩ := p
      rw [hd] at hda
      have hx : a = x := (Option.some.inj hda).symm
      subst hx
      subst hd
      have efp : fp = [] := by
        cases crs with
        | cons q1 q2 =>
          cases q1
          cases q2 with
          | cons q3 q4 => cases q3; cases q4; rfl
      subst efp
      obtain ⟨dt, ne, ns, m, t, h1, h2, h3⟩ := dk
      have h1 : H a = some (.dK [(.inr k0, .ref c), (.inr k1, .int m), (.inr k2, .int t)]) := h1
      have ma : a ∈ (Bs.mk H F0 (some (a, c)) ⟨(k0, k1, k2), tb⟩).ms := List.mem_append_right _ (by simp [Bs.deck])
      have mc : c ∈ (Bs.mk H F0 (some (a, c)) ⟨(k0, k1, k2), tb⟩).ms := List.mem_append_right _ (by simp [Bs.deck])
      have D0 : DkH k0 k1 k2 H a c ns m t := ⟨h1, h2⟩
      -- the end: what may have changed
      have fin : ∀ (H' : Hp) (ns' : List Int) (t' : Int) (r : Int), (∀ b o, b ≠ a → b ≠ c → H b = some o → H' b = some o) → DkH k0 k1 k2 H' a c ns' m t' → ns'.length ≤ 64 → 0 ≤ r → r < b → Q (.int r) H' := fun H' ns' t' r k D hl r0 r1 => by
        have hh : ∀ y o, y ∉ (Bs.mk H F0 (some (a, c)) ⟨(k0, k1, k2), tb⟩).ms → H y = some o → H' y = some o := fun y o my ey => k y o (fun z => my (z ▸ ma)) (fun z => my (z ▸ mc)) ey
        have nF : ∀ {y o}, F0 y = some o → y ≠ a ∧ y ≠ c := fun {y o} ey => by
          constructor
          · intro z
            have := (mf a ma).1
            rw [z, this] at ey; cases ey
          · intro z
            have := (mf c mc).1
            rw [z, this] at ey; cases ey
        refine k1' (.int r) F0 H' (.im (.int r)) ⟨⟨Same.refl _, fun y o my ey => hh y o my (by simpa [exc] using ey), fun _ ey _ => ey, fun y o ey => k y o (nF ey).1 (nF ey).2 (sm _ _ ey), ?_, ne, ns', m, t', D.d, D.l, hl⟩, [], .im (.int r), List.nodup_nil, fun _ z => nomatch z⟩ (hK r r0 r1)
        intro p hp
        obtain ⟨ps, g1, g2, g3⟩ := dt p hp
        have nt : ∀ {y ps}, H y = some (.tbl ps) → y ≠ a ∧ y ≠ c := fun {y ps} ey => ⟨ne_of ey h1 (fun z => by cases z), ne_of ey h2 (fun z => by cases z)⟩
        refine ⟨ps, k _ _ (nt g1).1 (nt g1).2 g1, g2, fun pos cv hcv => ?_⟩
        obtain ⟨cc, e1, e2⟩ := g3 pos cv hcv
        refine ⟨cc, e1, k _ _ (ne_of e2 h1 fun z => ?_) (ne_of e2 h2 fun z => ?_) e2⟩ <;> (unfold LamX.CodeO at z; cases z)
      -- deck[k2] += 1
      refine dk2 n02 n12 D0 rfl ⟨t, 1, rfl, rfl, ⟨.ref a, rfl, a, upd H a (.dK (putK [(.inr k0, .ref c), (.inr k1, .int m), (.inr k2, .int t)] (.inr k2) (.int (t + 1)))), rfl, .inl ⟨_, .inr k2, h1, rfl, ?_, rfl⟩, ?_⟩⟩
      · show 3 < sizeLine
        decide
      have ep : putK [((.inr k0 : Key), V.ref c), (.inr k1, .int m), (.inr k2, .int t)] (.inr k2) (.int (t + 1)) = [(.inr k0, .ref c), (.inr k1, .int m), (.inr k2, .int (t + 1))] := by
        simp [putK, n02, n12]
      rw [ep]
      generalize hH1 : upd H a (.dK [(.inr k0, .ref c), (.inr k1, .int m), (.inr k2, .int (t + 1))]) = H1
      have D1 : DkH k0 k1 k2 H1 a c ns m (t + 1) := by
        subst hH1
        exact ⟨upd_same, by rw [upd_ne (Ne.symm ne)]; exact h2⟩
      have K1 : ∀ b o, b ≠ a → b ≠ c → H b = some o → H1 b = some o := fun b o na _ e => by
        subst hH1
        rw [upd_ne na]; exact e
      -- figure
      refine dk1 n01 D1 rfl (dk2 n02 n12 D1 rfl ⟨c1, t + 1, rfl, rfl, cmulL hc1, m, c1 * (t + 1), rfl, rfl, ?_⟩)
      -- behind the look at the cells
      have rest : ∀ (H' : Hp) (ns' : List Int) (fig : Int) (o3 : Option V), (∀ b o, b ≠ a → b ≠ c → H b = some o → H' b = some o) → DkH k0 k1 k2 H' a c ns' m (t + 1) → ns'.length ≤ 64 →
          (tSeq (tAsg (dMod (dInt (dAdd (dMul (tVar 2) (dI c3)) (dI c4))) (dI c5)) (gName 2))
            (tSeq (tAsg (dMod (dInt (dAdd (dAdd (dMul (tVar 2) (tVar 2)) (dMul (dI c6) (dkGet k2))) (dI c7))) (dI c8)) (gName 2))
            (tSeq (tAsg (dMod (dInt (dMul (tVar 2) (dI c9))) (dI c10)) (gName 2))
              (tRet (dMod (dInt (dDiv (tVar 2) (dI 64))) (tVar 1)))))) { nx := fun _ H' => Q .non H', rt := Q } [some (.ref a), some (.int b), some (.int fig), o3] H' := fun H' ns' fig o3 k D hl => by
        refine ⟨.int fig, rfl, fig, c3, rfl, rfl, cmulR hc3, _, c4, rfl, rfl, .inl ⟨_, rfl, _, c5, rfl, rfl, hc5.1, ?_⟩⟩
        have b1 := Int.emod_nonneg (fig * c3 + c4) (show c5 ≠ 0 by omega)
        have b2 := Int.emod_lt_of_pos (fig * c3 + c4) hc5.1
        have b3 : CMul ((fig * c3 + c4) % c5) ((fig * c3 + c4) % c5) := .inl ⟨by omega, by omega⟩
        refine ⟨_, rfl, _, rfl, _, _, rfl, rfl, b3, ?_⟩
        refine dk2 n02 n12 D rfl ⟨c6, t + 1, rfl, rfl, cmulL hc6, _, _, rfl, rfl, _, c7, rfl, rfl, .inl ⟨_, rfl, _, c8, rfl, rfl, hc8, ?_⟩⟩
        refine ⟨_, rfl, _, c9, rfl, rfl, cmulR hc9, .inl ⟨_, rfl, _, c10, rfl, rfl, hc10, ?_⟩⟩
        refine ⟨_, rfl, _, 64, rfl, rfl, ⟨by decide, by decide⟩, .inl ⟨_, rfl, _, rfl, _, b, rfl, rfl, hb, ?_⟩⟩
        exact fin H' ns' (t + 1) _ k D hl (Int.emod_nonneg _ (by omega)) (Int.emod_lt_of_pos _ hb)
      refine dk0 D1 rfl ⟨Nat.zero_le _, fun p np => ?_⟩
      have pne : p ≠ a ∧ p ≠ c := ⟨fun z => (by rw [z, D1.d] at np; cases np), fun z => (by rw [z, D1.l] at np; cases np)⟩
      have D2 : DkH k0 k1 k2 (upd H1 p (.lst [])) a c ns m (t + 1) := ⟨by rw [upd_ne pne.1.symm]; exact D1.d, by rw [upd_ne pne.2.symm]; exact D1.l⟩
      have K2 : ∀ b o, b ≠ a → b ≠ c → H b = some o → upd H1 p (.lst []) b = some o := fun b o na nc e => by
        have := K1 b o na nc e
        rw [upd_ne (ne_of_none this np)]; exact this
      have P2 : upd H1 p (.lst []) p = some (.lst []) := upd_same
      generalize upd H1 p (.lst []) = H2 at D2 K2 P2
      refine ⟨.list (ns.map .int), .list [], .lst (.inl (.inl D2.l)) (ints_dp ns), ?_, ints_shaped ns, by decide, _, rfl, ?_⟩
      · exact Dp.lst (.inl (.inl P2)) .nil
      by_cases hns : ns = []
      · subst hns
        refine iteF ?_
        exact rest H2 [] _ none K2 D2 h3
      · have hne : (!PyData.eqv (.list (ns.map PyData.int)) (.list [])) = true := by
          cases ns with
          | nil => exact absurd rfl hns
          | cons n ns => simp [PyData.eqv, PyData.eqvAll]
        rw [hne]
        refine iteT ?_
        obtain ⟨ms, z, rfl⟩ : ∃ ms z, ns = ms ++ [z] := ⟨ns.dropLast, ns.getLast hns, (List.dropLast_concat_getLast hns).symm⟩
        have hlm : ms.length + 1 ≤ 64 := by simpa using h3
        have el : (ms ++ [z]).map V.int = ms.map V.int ++ [V.int z] := by simp
        refine dk0 D2 rfl ⟨.inl ⟨rfl, _, .inl (.inl D2.l)⟩, c, _, .int z, rfl, rfl, D2.l, by rw [el]; simp, ?_⟩
        have ed : ((ms ++ [z]).map V.int).dropLast = ms.map V.int := by rw [el]; simp
        rw [ed]
        have D3 : DkH k0 k1 k2 (upd H2 c (.lst (ms.map V.int))) a c ms m (t + 1) := ⟨by rw [upd_ne ne]; exact D2.d, upd_same⟩
        have K3 : ∀ b o, b ≠ a → b ≠ c → H b = some o → upd H2 c (.lst (ms.map V.int)) b = some o := fun b o na nc e => by
          rw [upd_ne nc]; exact K2 b o na nc e
        generalize upd H2 c (.lst (ms.map V.int)) = H3 at D3 K3
        refine ⟨.int z, rfl, 10, 18, rfl, rfl, ⟨by decide, by decide, by decide⟩, z, 10 ^ 18, rfl, rfl, _, rfl, ?_⟩
        by_cases hz : (10 : Int) ^ 18 ≤ z
        · rw [decide_eq_true hz]
          refine iteT ?_
          have hj : CDivW z (if b > 2 then b else 2) := by
            by_cases h2 : b > 2
            · rw [if_pos h2]; exact ⟨hb, hb2⟩
            · rw [if_neg h2]; exact ⟨by decide, by decide⟩
          refine dk0 D3 rfl ⟨.inl ⟨rfl, _, .inl (.inl D3.l)⟩, .int z, rfl, .int b, rfl, 2, b, rfl, z, _, rfl, rfl, hj, c, _, _, rfl, rfl, D3.l, ?_, ?_⟩
          · rw [List.length_map]
            exact Nat.lt_of_lt_of_le (show ms.length < 1000 by omega) (by decide)
          · refine ⟨.int z, rfl, .inl ⟨z, rfl, .int b, rfl, z, b, rfl, rfl, hb, fin _ (ms ++ [z / (if b > 2 then b else 2)]) (t + 1) _ (fun b o na nc e => by rw [upd_ne nc]; exact K3 b o na nc e) ⟨by rw [upd_ne ne]; exact D3.d, by rw [upd_same]; simp⟩ (by simpa using hlm) (Int.emod_nonneg _ (by omega)) (Int.emod_lt_of_pos _ hb)⟩⟩
        · rw [decide_eq_false hz]
          refine iteF ⟨_, rfl, .int z, rfl, .inl ⟨z, rfl, z, c2, rfl, rfl, hc2, _, _, rfl, rfl, ?_⟩⟩
          exact rest H3 ms _ (some (.int z)) K3 D3 (by omega)
end DL
set_option maxHeartbeats 1000000
namespace DL
open PySem PySem.Spec PyProof.Rows L2
section
variable {K : PySem.W.Frag} {da : Option Addr} {F H : Hp}
mutual
theorem CR.da0 : ∀ {v : V} {c : Cell} {fp : List Addr}, CR K none F H v c fp → CR K da F H v c fp
  | _, _, _, .un => .un
  | _, _, _, .im h => .im h
  | _, _, _, .ow h hs => .ow h (CRs.da0 hs)
  | _, _, _, .dk h l hs => .dk h l (CRs.da0 hs)
  | _, _, _, .dt h l hs => .dt h l (CRs.da0 hs)
  | _, _, _, .fk h l hs => .fk h l (CRs.da0 hs)
  | _, _, _, .ft h l hs => .ft h l (CRs.da0 hs)
  | _, _, _, .fn h1 h2 h3 => .fn h1 h2 h3
theorem CRs.da0 : ∀ {vs : List V} {cs : List Cell} {fp : List Addr}, CRs K none F H vs cs fp → CRs K da F H vs cs fp
  | _, _, _, .nil => .nil
  | _, _, _, .cons h hs => .cons (CR.da0 h) (CRs.da0 hs)
end
theorem SlotsR.da0 : ∀ {σ : List (Option V)} {γ : List Cell} {fp : List Addr}, SlotsR K none F H σ γ fp → SlotsR K da F H σ γ fp
  | _, _, _, .nil => .nil
  | _, _, _, .no hs => .no (SlotsR.da0 hs)
  | _, _, _, .so h hs => .so h.da0 (SlotsR.da0 hs)
end
@[simp] def sDeck (k : Str × Str × Str) (i : Nat) (T : XS) : XS := fun D γ => ∃ (ns : List Int) (m t : Int), γ[i]? = some (.dk [.inr k.1, .inr k.2.1, .inr k.2.2] [.ow ((ns.map PyData.int).map .im), .im (.int m), .im (.int t)]) ∧ ns.length ≤ 64 ∧
  T { nx := fun _ => False, rt := fun c => (∃ d, c = .im d) ∧ D.rt c } (γ.set i .deck)
theorem dss_deck {X : Cx} {B : Bs} {rest : List Stmt} {T : XS} {i : Nat} (hda : B.da = none) (h : ∀ B' : Bs, B'.dn = B.dn → DSs X B' rest T) : DSs X B rest (sDeck B.dn.k i T) := by
  refine ⟨fun pins s σ H Dd I ⟨γ, F, D', R, ⟨ns, m, t, e, hl, hT⟩, k1, k2, k3, k4⟩ => ?_⟩
  obtain ⟨fp, h1, h2, h3⟩ := R.sl
  have hdd : B.dd = none := by show B.da.map _ = none; rw [hda]; rfl
  rw [hdd] at h1
  have h1' := h1
  obtain ⟨v0, f0, e0, c0, _, _⟩ := h1.get e (by intro z; cases z)
  cases c0 with
  | @dk a _ vs _ fp1 t0 l0 al0 =>
    have h1d : SlotsR X.K (some a) F H σ γ fp := h1'.da0
    obtain ⟨v, f, q1, q2, q3, q4, q5⟩ := h1d.change h2 e (by intro z; cases z)
    rw [e0] at q1
    cases q1
    cases q2 with
    | @dk _ _ vs2 _ fp2 t1 l1 al1 =>
      obtain ⟨vc, vm, vt, rfl⟩ := len3 (show vs2.length = 3 from l1.symm)
      -- the dict's values
      cases al1 with
      | cons cl al1 => cases al1 with
        | cons cm al1 => cases al1 with
          | cons ct al1 =>
            cases al1
            have em := cm.int
            have et := ct.int
            subst em et
            cases cl with
            | @ow c xs _ fpl tl all =>
              obtain ⟨alD, efl⟩ := CRs.toDp all
              subst efl
              have exs := DpAll.ints alD
              subst exs
              cases cm
              cases ct
              have mem_a : a ∈ fp := q4 a List.mem_cons_self
              have mem_c : c ∈ fp := q4 c (by simp)
              have nac : a ≠ c := fun z => by
                have := (List.nodup_cons.mp q3).1
                exact this (by simp [z])
              obtain ⟨fp', s1, s2, s3⟩ := q5 F H .deck [] (Same.refl F) (fun _ _ _ => rfl) (.deck rfl) List.nodup_nil (fun _ m => nomatch m)
              have out : ∀ x ∈ fp', x ∈ fp ∧ x ≠ a ∧ x ≠ c := fun x hx => by
                rcases s3 x hx with z | ⟨z1, z2⟩
                · cases z
                · exact ⟨z1, fun y => z2 (by simp [y]), fun y => z2 (by simp [y])⟩
              let B' : Bs := ⟨exc H fp', F, some (a, c), B.dn⟩
              have tbm : ∀ x, x ∈ B.dn.tb.map (·.1) → x ∈ B.ms := fun x m => List.mem_append_left _ m
              have dk' : DeckOk B' H := ⟨R.dk.1, nac, ns, m, t, t1, tl, hl⟩
              have R' : Rel X.K B' (γ.set i .deck) F H σ := by
                refine ⟨⟨Same.refl F, fun x o _ ex => ?_, fun _ ex _ => ex, R.sub, dk'⟩, fun x mx => ?_, fun x mx => ?_, fp', s1, s2, fun x hx => ⟨(h3 x (out x hx).1).1, exc_in hx⟩⟩
                · by_cases hx : x ∈ fp'
                  · have : exc H fp' x = some o := ex
                    rw [exc_in hx] at this; cases this
                  · have : exc H fp' x = some o := ex
                    rwa [exc_out hx] at this
                · rcases List.mem_append.mp mx with mx | mx
                  · exact R.mf x (tbm x mx)
                  · have : x = a ∨ x = c := by simpa [Bs.deck, B'] using mx
                    rcases this with rfl | rfl
                    · exact (h3 _ mem_a).1
                    · exact (h3 _ mem_c).1
                · show exc H fp' x ≠ none
                  rcases List.mem_append.mp mx with mx | mx
                  · have g := R.mg x (tbm x mx)
                    rw [exc_out fun hx => g (h3 x (out x hx).1).2]
                    exact R.go.there g
                  · have : x = a ∨ x = c := by simpa [Bs.deck, B'] using mx
                    rcases this with rfl | rfl
                    · rw [exc_out fun hx => (out _ hx).2.1 rfl, t1]; exact fun z => by cases z
                    · rw [exc_out fun hx => (out _ hx).2.2 rfl, tl]; exact fun z => by cases z
              refine (h B' rfl).run pins s σ H Dd I ⟨γ.set i .deck, F, _, R', hT, fun _ _ _ _ _ _ z => z.elim, fun _ _ _ _ _ _ z => z.elim, fun _ _ _ _ _ _ z => z.elim, fun v F' H' cc ⟨go, fpr, cr, ndr, frr⟩ ⟨⟨d, ed⟩, q⟩ => ?_⟩
              subst ed
              cases cr with
              | im hd =>
                have nG : ∀ {x}, B.G x ≠ none → x ∉ fp' ∧ x ≠ a ∧ x ≠ c := fun {x} g => ⟨fun hx => g (h3 x (out x hx).1).2, fun z => g (by rw [z]; exact (h3 a mem_a).2), fun z => g (by rw [z]; exact (h3 c mem_c).2)⟩
                refine k4 v F' H' (.im d) ⟨⟨R.go.ff.trans go.ff, fun x o mx ex => ?_, fun x ex n => ?_, go.sub, go.dk.1, ?_⟩, [], .im hd, List.nodup_nil, fun _ m => nomatch m⟩ q
                · have n := nG (x := x) (by rw [ex]; exact fun z => by cases z)
                  refine go.hh x o (fun my => ?_) ?_
                  · rcases List.mem_append.mp my with my | my
                    · exact mx (List.mem_append_left _ my)
                    · have : x = a ∨ x = c := by simpa [Bs.deck, B'] using my
                      rcases this with z | z
                      · exact n.2.1 z
                      · exact n.2.2 z
                  · show exc H fp' x = some o
                    rw [exc_out n.1]
                    exact R.go.hh x o mx ex
                · refine go.nw x (R.go.nw x ex n) ?_
                  show exc H fp' x ≠ none
                  rw [exc_out (nG n).1]
                  exact R.go.there n
                · show DeckP B H'
                  unfold DeckP
                  rw [hda]
                  trivial
end DL
set_option maxHeartbeats 1000000
namespace DL
open PySem PySem.Spec PyProof.Rows L2
section
variable {X : Cx} {B : Bs} {e : Expr} {T : XE}
@[simp] def xFzE (T : XE) : XE := fun γ K => T γ fun c => K (frz c)
theorem de_fz (h : DE X B e T) : DE X B e (xFzE T) := pe_imp h fun σ H Q ⟨γ, F, Q', R, hT, k⟩ _ =>
  ⟨γ, F, _, R, hT, fun v F' H' c fp g sz cr nd fr q sz' => k v (addF F' H' fp) H' (frz c) [] (g.addF fr) sz' (CR.fz g.sub cr) List.nodup_nil (fun _ m => nomatch m) q⟩
end
end DL
set_option maxHeartbeats 1000000
namespace DL
open PySem PySem.Spec PyProof.Rows L2
/-- .. with no deck at the entry -/
def spOf0 (K : PySem.W.Frag) (dn : Dn) (S : FS) : Sp := fun vs H Q _ => ∃ F cs K', Same F H ∧ DeckOk ⟨H, F, none, dn⟩ H ∧ (∀ a ∈ (Bs.mk H F none dn).ms, F a = none) ∧
  CRs K none F H vs cs [] ∧ S cs K' ∧ ∀ v F' H' c, Fin K ⟨exc H [], F, none, dn⟩ F' H' v c → K' c → Q v H'
section
variable {P : Program} {w : World} {K : PySem.W.Frag} {mg : Str → Option Value} {base : Heap}
theorem fn_ok0 {x : Str} {st : Stmt} {f : Addr} {fd : FuncData} {N ps : List Str} {k : Nat} {dn : Dn} {S : FS} {T : XS} (F : FnP K x st f fd) (Sc : FnScope N ps (defScope st)) (len : ∀ cs K', S cs K' → cs.length = ps.length)
    (body : ∀ (cdv : Value) (A : Around) (outer : List Env) (s : Shared) (H : Hp) (E : XK) (B : Bs), B.dn = dn → B.da = none → Room k (A.deeper (envOfC x (defScope st) s.heap.objs.size f cdv)) → A.guards = some [] → DSs (cxOf CX0 P w K mg base N x (defScope st) f cdv A outer s H E).nox B (defBody st) T)
    (main : ∀ cs K', S cs K' → T { nx := fun _ => K' (.im .none), rt := K' } (cs ++ List.replicate (N.length - cs.length) .un)) : FnG P w K mg base (k + 1) f fd ps (spOf0 K dn S) := by
  obtain ⟨oc, od, dV, kV, doc, pm, an, cdv, ct, osl, rfl, lk, hcdI, _, _⟩ := F.ex
  refine fnG_of lk hcdI Sc (fun vs H Q E ⟨F0, cs, K', _, _, _, crs, hS, _⟩ => by rw [crs.length]; exact len cs K' hS) (fun A outer s H vs Q E hr hgd ⟨F0, cs, K', sm, dk, mf, crs, hS, k1⟩ => ?_)
  refine ⟨_, (PSs.nox (body cdv A outer s H E ⟨exc H [], F0, none, dn⟩ rfl rfl hr hgd)), ?_⟩
  have hl : cs.length = ps.length := len cs K' hS
  have dk' : DeckOk ⟨exc H [], F0, none, dn⟩ H := dk
  have g0 : Go ⟨exc H [], F0, none, dn⟩ F0 (exc H []) F0 H := ⟨Same.refl _, fun a o _ e => by
    rwa [exc_out (by simp)] at e, fun a e _ => e, sm, dk'⟩
  have R : Rel K ⟨exc H [], F0, none, dn⟩ (cs ++ List.replicate (N.length - cs.length) .un) F0 H (L2.start N vs) := by
    refine ⟨g0, fun a m => mf a m, fun a m => ?_, [], ?_, List.nodup_nil, fun a m => nomatch m⟩
    · show exc H [] a ≠ none
      rw [exc_out (by simp)]
      obtain ⟨o, e⟩ := dk.there a m
      rw [e]; exact fun z => by cases z
    · have := SlotsR.ofCRs (N.length - cs.length) crs
      unfold L2.start
      rw [crs.length]
      exact this
  exact ⟨_, F0, _, R, main cs K' hS, fun γ' F' σ' H' R' _ q => k1 .non F' H' (.im .none) ⟨R'.go, [], .im .non, List.nodup_nil, fun _ m => nomatch m⟩ q, fun _ _ _ _ _ _ z => z.elim, fun _ _ _ _ _ _ z => z.elim, fun v F' H' c fin q => k1 v F' H' c fin q⟩
/-- a def that is never called -/
theorem fn_no {x : Str} {st : Stmt} {f : Addr} {fd : FuncData} {N ps : List Str} {dn : Dn} (F : FnP K x st f fd) (Sc : FnScope N ps (defScope st)) : FnG P w K mg base 1 f fd ps (spOf K dn fun _ _ => False) :=
  FnG.of <| F.ok (k := 0) (CX := CX0) Sc (fun vs H Q E ⟨_, _, _, _, _, _, _, _, _, _, _, hS, _⟩ => hS.elim) (fun cdv A outer s H vs Q E hr ⟨_, _, _, _, _, _, _, _, _, _, _, hS, _⟩ => hS.elim)
theorem Cal.mono {j k : Nat} {dn : Dn} {x : Str} {st : Stmt} {ps : List Str} {S : FS} (c : Cal P w K mg base dn j x st ps S) (h : j ≤ k) : Cal P w K mg base dn k x st ps S := by
  obtain ⟨nm, f, fd, h1, h2, h3, h4⟩ := c
  exact ⟨nm, f, fd, h1, h2, h3, h4.mono h⟩
end
def exT (tps : List (Str × List He.Dv)) (K : PySem.W.Frag) : Bool := tps.all fun t => He.tupB K t.1 t.2
theorem exT_tup {K : PySem.W.Frag} {tps : List (Str × List He.Dv)} (c : exT tps K = true) (i : Nat) {t : Str × List He.Dv} (h : tps[i]? = some t := by rfl) (H : Hp) : SqT K H (He.ga K t.1) (t.2.map (He.Dv.v K)) :=
  He.tupB_ok (List.all_eq_true.mp c t (List.mem_of_getElem? h)) H
theorem fdCode {K : PySem.W.Frag} {x : Str} {st : Stmt} {fd : FuncData} (F : FnP K x st (He.fAd K (x, none)) fd) : fd.code = .ref (He.cT K (x, none)).1 := by
  obtain ⟨oc, od, dV, kV, doc, pm, an, cdv, ct, osl, rfl, lk, hcd, _, _⟩ := F.ex
  obtain ⟨c, e⟩ := He.codeIn_ref hcd
  subst e
  show Value.ref c = .ref (He.codeOf K (x, none))
  rw [He.codeOf_eq lk rfl]
/-- the law's arguments at the end: a list of whole numbers, the tables -/
theorem law_sp {K : PySem.W.Frag} {k : Str × Str × Str} {S : FS} {ts : List (Addr × Str)} {H : Hp} {a : Addr} {ns : List Int} (hT : ∀ p ∈ ts, H p.1 = some (.tbl #[])) (hS : SqL K H a (ns.map V.int)) {Q : VK} {E : XK}
    (h : S [.im (.list (ns.map .int))] fun c => c = .im (.bool true)) (hQ : ∀ H', Q (.bl true) H') : spOf0 K ⟨k, ts⟩ S [.ref a] H Q E := by
  have hTb : LamX.Tabs ts H := fun p hp => ⟨#[], hT p hp, trivial, fun pos cv z => by simp [codeAmong] at z⟩
  have nin : ∀ b, b ∈ ts.map (·.1) → H b = some (.tbl #[]) := fun b hb => by
    obtain ⟨p, hp, e⟩ := List.mem_map.mp hb
    rw [← e]; exact hT p hp
  let F : Hp := fun b => open Classical in if b ∈ ts.map (·.1) then none else H b
  have hF : ∀ b, b ∈ ts.map (·.1) → F b = none := fun b hb => if_pos hb
  have hF2 : ∀ b, b ∉ ts.map (·.1) → F b = H b := fun b hb => if_neg hb
  have sm : Same F H := fun b o e => by
    by_cases hb : b ∈ ts.map (·.1)
    · rw [hF b hb] at e; cases e
    · rwa [hF2 b hb] at e
  have sq : SqL K F a (ns.map V.int) := by
    have na : ∀ o, H a = some o → (∀ t, o ≠ .tbl t) → F a = some o := fun o e n => by
      rw [hF2 a fun hb => by have := nin a hb; rw [e] at this; cases this; exact n _ rfl]; exact e
    rcases hS with (h | ⟨o, h⟩) | h
    · exact .inl (.inl (na _ h fun t z => by cases z))
    · exact .inl (.inr ⟨o, na _ h fun t z => by cases z⟩)
    · exact .inr h
  refine ⟨F, [.im (.list (ns.map .int))], _, sm, ⟨hTb, trivial⟩, fun b hb => ?_, ?_, h, fun v F' H' c fin e => ?_⟩
  · have : b ∈ ts.map (·.1) := by simpa [Bs.ms, Bs.deck] using hb
    exact hF b this
  · exact CRs.one (.im (.lst sq (ints_dp ns)))
  · subst e
    obtain ⟨_, fp, cr, _, _⟩ := fin
    cases cr with
    | im d => cases d; exact hQ H'
end DL
set_option maxHeartbeats 1000000
namespace DL
open PySem PySem.Spec PyProof.Rows L2
theorem LamP.mono {P : Program} {w : World} {K : PySem.W.Frag} {mg : Str → Option Value} {base : Heap} {dn : Dn} {j k : Nat} {L : LamI} {S : List D → FS} (c : LamP P w K mg base dn j L S) (h : j ≤ k) : LamP P w K mg base dn k L S :=
  fun A outer s H f us vs Q hr => c A outer s H f us vs Q (hr.mono h)
end DL
set_option maxHeartbeats 1000000
namespace DL
open PySem PySem.Spec PyProof.Rows L2
section
variable {P : Program} {w : World} {K : PySem.W.Frag} {mg mb : Str → Option Value} {k : Nat} {fa a : Addr} {cs : List (Addr × Addr)} {fd : FuncData} {x : Str} {sp : Sp} {s1 : Shared} {vs : List Value} {ns : List Int}
/-- the abstract heap at the law's call: the tables, the script unless it is written -/
noncomputable def endH (K : PySem.W.Frag) (cs : List (Addr × Addr)) (a : Addr) (vs : List Value) (ns : List Int) : Hp := fun b => open Classical in
  if b ∈ cs.map (·.2) then some (.tbl #[]) else if b = a ∧ K.lookup a = none then some (.frz { cls := .type "list", data := .seq vs.toArray } (.lst (ns.map V.int))) else none
theorem endH_tab {b : Addr} (h : b ∈ cs.map (·.2)) : endH K cs a vs ns b = some (.tbl #[]) := if_pos h
theorem endH_cases {b : Addr} {o : HO} (h : endH K cs a vs ns b = some o) : (b ∈ cs.map (·.2) ∧ o = .tbl #[]) ∨ (b = a ∧ K.lookup a = none ∧ o = .frz { cls := .type "list", data := .seq vs.toArray } (.lst (ns.map V.int))) := by
  unfold endH at h
  split at h
  · rename_i q; exact .inl ⟨q, (Option.some.inj h).symm⟩
  · split at h
    · rename_i q; exact .inr ⟨q.1, q.2, (Option.some.inj h).symm⟩
    · cases h
theorem law_callG (KX : K.In s1.heap) (hns : s1.heap.Ns mainGlobals mg) (hb : s1.heap.Ns builtinsNs mb) (hbb : ∀ x : Str, x ≠ "__name__" → mb x = bootBuiltins x) (hlim : s1.heap.NoLimit) (hg : s1.gens = #[])
    (hT : ∀ p ∈ cs, s1.heap.get? p.2 = some { cls := .none, data := .fields #[] }) (nT : ∀ p ∈ cs, K.lookup p.2 = none) (C : ∀ p ∈ cs, PySem.W.CodeHd s1.heap p.1 p.2)
    (hbm : ∃ (bm : Addr) (ob : Obj), mg "__builtins__" = some (.ref bm) ∧ bm ≠ builtinsNs ∧ s1.heap.get? bm = some ob ∧ ob.cls = .type "module" ∧ ob.dict = some builtinsNs ∧ ob.data = .plain)
    (ha : s1.heap.get? a = some { cls := .type "list", data := .seq vs.toArray }) (hi : IntsAre vs ns) (hl : ns.length ≤ sizeLine) (hr : Room k callerA)
    (F : ∀ base : Heap, K.In base → base.Ns mainGlobals mg → (∀ p ∈ cs, LamX.TabB base mg p.1 p.2) → FnG P w K mg base k fa fd [x] sp) (hbind : ∀ (s : Shared) (u : Value), BindsTo s fd ⟨[u], []⟩ [(x, u)])
    (hsp : ∀ H : Hp, (∀ p ∈ cs, H p.2 = some (.tbl #[])) → SqL K H a (ns.map V.int) → sp [.ref a] H (fun v _ => v = .bl true) E0) :
    codeAny (model P w) callerA (.call (.ref fa) ⟨[.ref a], []⟩) (fun r s' => r = .ok (.ret (.bool true)) ∧ OldK s1.heap s'.heap ∧ s'.os = s1.os ∧ AllBare s'.gens) s1 := by
  have rv := vals_ints hi
  have tabs : ∀ b, b ∈ cs.map (·.2) → ∃ p ∈ cs, p.2 = b := fun b h => List.mem_map.mp h
  have mem : ∀ p ∈ cs, p.2 ∈ cs.map (·.2) := fun p hp => List.mem_map_of_mem hp
  have at_ : ∀ b, b ∈ cs.map (·.2) → s1.heap.get? b = some { cls := .none, data := .fields #[] } := fun b h => by
    obtain ⟨p, hp, e⟩ := tabs b h
    exact e ▸ hT p hp
  have na : a ∉ cs.map (·.2) := fun z => by
    have e := (at_ a z).symm.trans ha
    have e2 := congrArg Obj.data (Option.some.inj e)
    cases e2
  generalize hH : endH K cs a vs ns = H
  have cases_ : ∀ {b o}, H b = some o → (b ∈ cs.map (·.2) ∧ o = .tbl #[]) ∨ (b = a ∧ K.lookup a = none ∧ o = .frz { cls := .type "list", data := .seq vs.toArray } (.lst (ns.map V.int))) := fun {b o} e => endH_cases (by rw [hH]; exact e)
  have hHt : ∀ p ∈ cs, H p.2 = some (.tbl #[]) := fun p hp => by rw [← hH]; exact endH_tab (mem p hp)
  have sq : SqL K H a (ns.map V.int) := by
    cases q : K.lookup a with
    | none =>
      refine .inl (.inr ⟨{ cls := .type "list", data := .seq vs.toArray }, ?_⟩)
      rw [← hH]
      unfold endH
      rw [if_neg na, if_pos ⟨rfl, q⟩]
    | some o =>
      have e := (KX a o q).symm.trans ha
      have e2 := Option.some.inj e
      subst e2
      exact .inr ⟨_, vs.toArray, _, q, rfl, rfl, rfl, by rw [List.size_toArray, hi.length]; exact hl, by simpa using rv⟩
  have hok : HOk P w H s1.heap := fun b u e => by
    rcases cases_ e with ⟨m, rfl⟩ | ⟨rfl, _, rfl⟩
    · exact at_ b m
    · exact ⟨ha, by rw [List.length_map]; exact hl, vs, _, rv, ha⟩
  -- what is not tracked stands in the base
  have free : ∀ {b o}, s1.heap.get? b = some o → b ≠ a → b ∉ cs.map (·.2) → H b = none := fun {b o} e n1 n2 => by
    cases q : H b with
    | none => rfl
    | some u => exact (cases_ q).elim (fun z => absurd z.1 n2) fun z => absurd z.1 n1
  have notTab : ∀ {b o}, s1.heap.get? b = some o → o.data ≠ .fields #[] → b ∉ cs.map (·.2) := fun {b o} e n m => by
    have := (at_ b m).symm.trans e
    cases this
    exact n rfl
  have notA : ∀ {b o}, s1.heap.get? b = some o → (∀ z n, o.data ≠ .seq z n) → b ≠ a := fun {b o} e n z => by
    subst z
    have := ha.symm.trans e
    cases this
    exact n _ _ rfl
  have base_ : ∀ {b o}, s1.heap.get? b = some o → H b = none → (hidT s1.heap H).get? b = some o := fun e n => hidT_get e n
  have nsB : ∀ {b : Addr} {m : Str → Option Value}, s1.heap.Ns b m → (hidT s1.heap H).Ns b m := by
    rintro b m ⟨o, es, ep, e, d, r⟩
    refine ⟨o, es, ep, base_ e (free e (notA e fun z n q => ?_) (notTab e fun q => ?_)), d, r⟩
    · rw [d] at q; cases q
    · rw [d] at q; cases q
  have KB : K.In (hidT s1.heap H) := fun b o e => base_ (KX b o e) (by
    cases q : H b with
    | none => rfl
    | some u =>
      rcases cases_ q with ⟨m, _⟩ | ⟨z, n, _⟩
      · obtain ⟨p, hp, ep⟩ := tabs b m
        have := nT p hp
        rw [ep] at this
        rw [this] at e; cases e
      · subst z
        rw [n] at e; cases e)
  have TB : ∀ p ∈ cs, LamX.TabB (hidT s1.heap H) mg p.1 p.2 := fun p hp => by
    refine ⟨?_, ?_, ?_⟩
    · obtain ⟨o, us, file, tf, flags, tg, inF, text, tt, e1, r1, r2, r3, r4, r5, r6, r7, r8, ne⟩ := C p hp
      refine ⟨o, us, file, tf, flags, tg, inF, text, tt, base_ e1 (free e1 (notA e1 fun z n q => ?_) (notTab e1 fun q => ?_)), r1, r2, r3, r4, r5, r6, r7, r8, ne⟩
      · rw [r2] at q; cases q
      · rw [r2] at q
        cases q
        simp at r3
    · obtain ⟨bm, ob, b1, b2, b3, b4, b5, b6⟩ := hbm
      have h1 : bm ∉ cs.map (·.2) := notTab b3 (by rw [b6]; exact fun q => by cases q)
      have h2 : bm ≠ a := notA b3 (by rw [b6]; exact fun _ _ q => by cases q)
      refine ⟨bm, ob, b1, b2, ?_, fun z => h1 (z ▸ mem p hp), base_ b3 (free b3 h2 h1), b4, b5, b6⟩
      rintro rfl
      obtain ⟨o, es, ep, e, hd, _⟩ := hns
      rw [e] at b3
      cases b3
      rw [hd] at b6; cases b6
    · intro z
      obtain ⟨o, es, ep, e, hd, _⟩ := hns
      rw [z, hT p hp] at e
      cases e
      cases hd
  have hM : L2.Mod K mg (hidT s1.heap H) := ⟨KB, nsB hns, ⟨mb, nsB hb, hbb⟩, let ⟨mc, h1, h2⟩ := hlim; ⟨mc, nsB h1, h2⟩⟩
  have e0 : Env0 P w K mg (hidT s1.heap H) callerA [] s1 H := ⟨rfl, hM, fun b o e => of_hidT e, Nat.le_of_eq (hidT_size _ _), trivial, fun b hb => absurd (show b ∈ ([] : List Addr) from hb) (by simp), hok, .of_eq hg⟩
  refine codeAny_mono ((F _ KB (nsB hns) TB).run callerA [] s1 H ⟨[.ref a], []⟩ [.ref a] [.ref a] _ _ hr rfl e0 (hbind s1 (.ref a)) (.cons rfl .nil) (hsp H hHt sq)) ?_
  rintro (e | fl) s' h
  · exact h.elim
  cases fl with
  | next => exact h.elim
  | brk => exact h.elim
  | cont => exact h.elim
  | ret u =>
    obtain ⟨v, H', os, bare, un, hok', r', q⟩ := h
    have q' : v = .bl true := q
    subst q'
    obtain rfl : u = Value.bool true := r'
    have same : ∀ b o, b ∉ cs.map (·.2) → s1.heap.get? b = some o → s'.heap.get? b = some o := fun b o nb e => by
      cases q : H b with
      | none => exact un.keep b o e q (fun z => absurd (show b ∈ ([] : List Addr) from z) (by simp)) (by simp)
      | some u =>
        rcases cases_ q with ⟨m, _⟩ | ⟨_, _, rfl⟩
        · exact absurd m nb
        · have e1 := (hok b _ q).1
          have e2 := (hok' b _ (un.frzs b _ _ q)).1
          rw [e] at e1; cases e1
          exact e2
    have more : ∀ p ∈ cs, ∃ ms : Array Value, s'.heap.get? p.2 = some { cls := .none, data := .fields ms } := fun p hp => by
      obtain ⟨ms, z⟩ := un.tbls p.2 #[] (hHt p hp)
      exact ⟨_, hok' p.2 _ z⟩
    refine ⟨rfl, ⟨fun b o e => ?_, fun b o e => ?_⟩, os, bare⟩
    · by_cases m : b ∈ cs.map (·.2)
      · obtain ⟨p, hp, rfl⟩ := tabs b m
        obtain ⟨ms, hm⟩ := more p hp
        rw [hT p hp] at e
        cases e
        exact .inr (.inl ⟨((C p hp).tab (hT p hp)).isCodeTable, rfl, #[], ms, rfl, by rw [Array.empty_append]; exact hm⟩)
      · exact .inl (same b o m e)
    · by_cases m : b ∈ cs.map (·.2)
      · obtain ⟨p, hp, rfl⟩ := tabs b m
        obtain ⟨ms, hm⟩ := more p hp
        exact ⟨_, hm⟩
      · exact ⟨o, same b o m e⟩
end
/-- what is known of the law's promise at the head's heap h -/
def LawAtG (l : PySem.W.OpenLaw) (w : World) (K : PySem.W.Frag) (k n : Nat) (x : Str) (mg : Str → Option Value) (fa : Addr) (h : Heap) : Prop :=
  ∃ (fd : FuncData) (cs : List (Addr × Addr)) (sp : Sp), (∀ p ∈ cs, h.get? p.2 = some { cls := .none, data := .fields #[] }) ∧ (∀ p ∈ cs, K.lookup p.2 = none) ∧ (∀ p ∈ cs, PySem.W.CodeHd h p.1 p.2) ∧ (∀ (s : Shared) (u : Value), BindsTo s fd ⟨[u], []⟩ [(x, u)]) ∧
    (∀ (H : Hp) (a : Addr) (ns : List Int), ns.length ≤ n → (∀ z ∈ ns, Builtin.Int.intBits z ≤ 1048576) → (∀ p ∈ cs, H p.2 = some (.tbl #[])) → SqL K H a (ns.map V.int) → sp [.ref a] H (fun v _ => v = .bl true) E0) ∧
    ∀ base : Heap, K.In base → base.Ns mainGlobals mg → (∀ p ∈ cs, LamX.TabB base mg p.1 p.2) → FnG l.prog w K mg base k fa fd [x] sp
theorem walk_ofG {l : PySem.W.OpenLaw} {n k : Nat} {q : Program} {loose : List Str} {XP : (Str → Option Value) → Heap → Prop} {YP : World → Heap → Prop} {d : DefRec} {x : Str}
    (hn : l.most = some n) (hn2 : n ≤ sizeLine) (hdf : d.params.defaults = []) (hr : Room k callerA)
    (F : ∀ (w : World) (mg : Str → Option Value) (fa : Addr) (h : Heap), YP w h → h.Ns mainGlobals mg → mg d.name = some (.ref fa) → ∃ K : PySem.W.Frag, K.In h ∧ LawAtG l w K k n x mg fa h) :
    PySem.W.WalkO q loose XP YP l.row.toRowW d [] (fun f vs => PySem.call f vs) :=
  Att.attach_callB hn hdf fun w s0 s1 mg mb fa o pm cd doc a vs ns G Y ho hd hcd hmg hobj hints hlen hbits hg => by
    obtain ⟨K, KX, fd, cs, sp, hT, nT, C, hb, hsp, hF⟩ := F w mg fa _ Y G.T.g hmg
    exact law_callG KX G.T.g G.T.b G.T.builtins G.T.nolimit hg hT nT C G.T.bmain hobj hints (Nat.le_trans hlen hn2) hr hF hb (fun H hH hS => hsp H a ns hlen hbits hH hS)
end DL
set_option maxHeartbeats 1000000
namespace DL
open PySem PySem.Spec PyProof.Rows L2
/-- may be shown: its text is not beyond the line -/
def ShowOk (d : D) : Prop := d.showable = true ∧ d.hasDict = false ∧ d.depth ≤ 60 ∧ d.shown.length ≤ sizeLine
def rReprD (K : PySem.W.Frag) : List V → Hp → VK → Prop := fun vs H Q => ∃ x d, vs = [x] ∧ Dp K H x d ∧ ShowOk d ∧ Q (.str d.shown) H
theorem cr_repr {X : Cx} (hg : X.A.guards = some []) (hu : X.A.units + 65 < cLine) : CallR X (.builtin "repr") (rReprD X.K) := by
  intro pins s σ H vs us Q I r h
  obtain ⟨x, d, rfl, hd, ⟨h1, h2, h3, h4⟩, q⟩ := h
  obtain ⟨u, rfl, ru⟩ := vals1 r
  obtain ⟨as, rr⟩ := Dp.reads I d x u hd ru
  have big : ∀ (a : Addr), Reads s.heap (.ref a) d as → wpAny (model X.prog X.w) X.A (call (.builtin "repr") [.ref a]) (EP X pins σ Q) X.xe s := fun a r0 =>
    repr_of_reads' r0 h1 (PyData.noDict_hsm h2) hg (by omega) (fun _ _ e => e) (fun h' t tk k => ⟨.str d.shown, H, I.kept (t' := tk) k, ⟨t, rfl⟩, q⟩) h4
  have tk : Inv X pins σ H { s with toks := s.toks + 1 } := I.tok _
  cases d with
  | none => cases rr; simp only [PyData.shown] at q; exact PySem.P.repr_of_none ⟨.str _, H, tk, ⟨_, rfl⟩, q⟩
  | bool b => cases rr; simp only [PyData.shown] at q; exact PySem.P.repr_of_bool ⟨.str _, H, tk, ⟨_, rfl⟩, q⟩
  | int i =>
    cases rr
    simp only [PyData.shown] at q
    simp only [PyData.showable, decide_eq_true_eq] at h1
    exact PySem.P.repr_of_int h1 ⟨.str _, H, tk, ⟨_, rfl⟩, q⟩
  | str z =>
    cases rr
    simp only [PyData.shown] at q h4
    exact PySem.P.repr_of_str ⟨.str _, H, tk, ⟨_, rfl⟩, q⟩ h4
  | list ds => cases hd; obtain rfl : u = Value.ref _ := ru; exact big _ rr
  | tuple ds => cases hd; obtain rfl : u = Value.ref _ := ru; exact big _ rr
  | dict ds => cases hd
@[simp] def cRepr : List Cell → (Cell → Prop) → Prop := fun cs Q => ∃ c d, cs = [c] ∧ toD c = some d ∧ ShowOk d ∧ Q (.im (.str d.shown))
section
variable {B : Bs}
theorem ok_repr {K : PySem.W.Frag} : RAOk K B (rReprD K) cRepr := fun F H vs cs fp K' Q s d sz crs fr ⟨c, x, e, e2, hs, q⟩ g => by
  subst e
  obtain ⟨v, rfl, h⟩ := crs_one crs
  exact ⟨v, x, rfl, h.toH s e2, hs, g.data s d (.str _) q⟩
@[simp] def cInv : Cell → (Cell → Prop) → Prop := fun a K => ∃ i, a = .im (.int i) ∧ K (.im (.int (Builtin.bitNot i)))
theorem ok_Inv {K : PySem.W.Frag} : R1Ok K B (rU fun i => .int (Builtin.bitNot i)) cInv := fun F H x c1 f1 K' Q s d sz h1 ⟨i, e1, q⟩ gv => by
  subst e1
  rw [h1.int]
  exact ⟨i, rfl, gv.data s d (.int _) q⟩
end
def rgI (a b : Int) : List D := (List.range (b - a).toNat).map fun i => PyData.int (a + (i : Nat))
theorem rg_dp {K : PySem.W.Frag} {H : Hp} (a : Int) : ∀ l : List Nat, DpAll K H (l.map fun i => V.int (a + (i : Nat))) (l.map fun i => PyData.int (a + (i : Nat)))
  | [] => .nil
  | i :: l => .cons (.int _) (rg_dp a l)
section
variable {X : Cx} {B : Bs} {a b : Expr} {Ta Tb : XE} {p p2 pos pos2 : Pos}
@[simp] def xRgL1 (Ta : XE) : XE := fun γ K => Ta γ fun c => ∃ n, c = .im (.int n) ∧ 0 ≤ n ∧ n ≤ 16777216 ∧ K (.ow ((rgI 0 n).map .im))
@[simp] def xRgT1 (Ta : XE) : XE := fun γ K => Ta γ fun c => ∃ n, c = .im (.int n) ∧ 0 ≤ n ∧ n ≤ 16777216 ∧ K (.im (.tuple (rgI 0 n)))
@[simp] def xRgL2 (Ta Tb : XE) : XE := fun γ K => Ta γ fun c => ∃ m, c = .im (.int m) ∧ Tb γ fun c => ∃ n, c = .im (.int n) ∧ 0 ≤ m ∧ m ≤ 16777216 ∧ 0 ≤ n ∧ n ≤ 16777216 ∧ K (.ow ((rgI m n).map .im))
@[simp] def xRgT2 (Ta Tb : XE) : XE := fun γ K => Ta γ fun c => ∃ m, c = .im (.int m) ∧ Tb γ fun c => ∃ n, c = .im (.int n) ∧ 0 ≤ m ∧ m ≤ 16777216 ∧ 0 ≤ n ∧ n ≤ 16777216 ∧ K (.im (.tuple (rgI m n)))
theorem de_rgL1 (h : PE X e (tLstRg (tRg1 (liftR X.K B Ta)))) : DE X B e (xRgL1 Ta) :=
  pe_imp h fun σ H Q ⟨γ, F, Q', R, hT, k⟩ _ => ⟨γ, F, _, R, hT, fun v F1 H1 c f g1 sz cr fr ⟨n, e, h0, h1, q⟩ => by
    subst e
    have gk : Gives X.K B F H Q' Q := k
    rw [cr.int]
    exact ⟨n, rfl, RgOk.of_le (Int.le_refl 0) h1 (by decide) h0, fun z nz => (gk.from g1).lstD g1.sub g1.dk (rg_dp 0 _) q nz⟩⟩
theorem de_rgT1 (h : PE X e (tTupRg (tRg1 (liftR X.K B Ta)))) : DE X B e (xRgT1 Ta) :=
  pe_imp h fun σ H Q ⟨γ, F, Q', R, hT, k⟩ _ => ⟨γ, F, _, R, hT, fun v F1 H1 c f g1 sz cr fr ⟨n, e, h0, h1, q⟩ => by
    subst e
    have gk : Gives X.K B F H Q' Q := k
    rw [cr.int]
    exact ⟨n, rfl, RgOk.of_le (Int.le_refl 0) h1 (by decide) h0, fun z nz => (gk.from g1).tup g1.sub g1.dk (rg_dp 0 _) q nz⟩⟩
theorem de_rgL2 (h : PE X e (tLstRg (tRg2 (liftR X.K B Ta) (liftR X.K B Tb)))) : DE X B e (xRgL2 Ta Tb) :=
  pe_imp h fun σ H Q ⟨γ, F, Q', R, hT, k⟩ _ => ⟨γ, F, _, R, hT, fun v F1 H1 c f g1 sz cr fr ⟨m, e, hb⟩ => ⟨γ, F1, _, R.step g1, hb, fun v2 F2 H2 c2 f2 g2 sz2 cr2 fr2 ⟨n, e2, h0, h1, h2, h3, q⟩ => by
    subst e e2
    have gk : Gives X.K B F H Q' Q := k
    rw [cr.int, cr2.int]
    exact ⟨m, n, rfl, rfl, RgOk.of_le h0 h3 h1 h2, fun z nz => (gk.from (g1.trans g2)).lstD g2.sub g2.dk (rg_dp m _) q nz⟩⟩⟩
theorem de_rgT2 (h : PE X e (tTupRg (tRg2 (liftR X.K B Ta) (liftR X.K B Tb)))) : DE X B e (xRgT2 Ta Tb) :=
  pe_imp h fun σ H Q ⟨γ, F, Q', R, hT, k⟩ _ => ⟨γ, F, _, R, hT, fun v F1 H1 c f g1 sz cr fr ⟨m, e, hb⟩ => ⟨γ, F1, _, R.step g1, hb, fun v2 F2 H2 c2 f2 g2 sz2 cr2 fr2 ⟨n, e2, h0, h1, h2, h3, q⟩ => by
    subst e e2
    have gk : Gives X.K B F H Q' Q := k
    rw [cr.int, cr2.int]
    exact ⟨m, n, rfl, rfl, RgOk.of_le h0 h3 h1 h2, fun z nz => (gk.from (g1.trans g2)).tup g2.sub g2.dk (rg_dp m _) q nz⟩⟩⟩
end
theorem CRs.inner {K : PySem.W.Frag} {da : Option Addr} {F H : Hp} : ∀ {vs : List V} {cs : List Cell} {fp : List Addr} {k : Nat} {ds : List D}, CRs K da F H vs cs fp → fp.Nodup → cs[k]? = some (.ow (List.map Cell.im ds)) →
    ∃ a ws, vs[k]? = some (.ref a) ∧ a ∈ fp ∧ H a = some (.lst ws) ∧ DpAll K F ws ds ∧ ∀ ws' ds', DpAll K F ws' ds' → CRs K da F (upd H a (.lst ws')) vs (cs.set k (.ow (List.map Cell.im ds'))) fp
  | _, _, _, _, _, .nil, _, e => by simp at e
  | _, _, _, 0, ds, .cons h hs, nd, e => by
    simp at e; subst e
    cases h with
    | @ow a ws _ f0 t al =>
      obtain ⟨dl, ef⟩ := CRs.toDp al
      subst ef
      have nd2 := List.nodup_cons.mp nd
      refine ⟨a, ws, rfl, List.mem_cons_self, t, dl, fun ws' ds' dl' => ?_⟩
      exact CRs.cons (f := [a]) (.ow upd_same (CRs.ofDp dl')) (hs.mono (Same.refl _) fun b m o eo => by rw [upd_ne fun z => nd2.1 (by rw [← z]; exact m)]; exact eo)
  | _, _, _, k + 1, ds, .cons (f := f0) (fp := fp0) h hs, nd, e => by
    obtain ⟨n1, n2, n3⟩ := List.nodup_append.mp nd
    obtain ⟨a, ws, h1, h2, h3, h4, h5⟩ := CRs.inner (k := k) hs n2 (by simpa using e)
    refine ⟨a, ws, by simpa using h1, List.mem_append_right _ h2, h3, h4, fun ws' ds' dl' => ?_⟩
    exact CRs.cons (h.mono (Same.refl _) fun b m o eo => by rw [upd_ne fun z => n3 b m a h2 z]; exact eo) (h5 ws' ds' dl')
section
variable {X : Cx} {B : Bs} {st : Stmt} {TA' TI' TT : XE}
/-- x[a][b] = e -/
@[simp] def sSetIx2 (i : Nat) (TA' TI' TT : XE) : XS := fun E γ => TT γ fun c => ∃ d cs, c = .im d ∧ γ[i]? = some (.ow cs) ∧ TA' γ fun ka => ∃ m k ds, ka = .im (.int m) ∧ ixN cs.length m = some k ∧ cs[k]? = some (.ow (List.map Cell.im ds)) ∧
  TI' γ fun kb => ∃ n j, kb = .im (.int n) ∧ ixN ds.length n = some j ∧ E.nx (γ.set i (.ow (cs.set k (.ow ((ds.set j d).map .im)))))
theorem atI_of {α : Type} {xs : List α} {m : Int} {k : Nat} {v : α} (h : ixN xs.length m = some k) (e : xs[k]? = some v) : atI xs m = some v := by
  unfold atI; rw [h]; exact e
theorem ds_setIx2 {i : Nat} (h : PS X st (tAsg (liftE X.K B TT) (gSub (tOp (rIxAll X.K) (tVar i) (liftR X.K B TA')) (liftR X.K B TI') rSetL))) : DS X B st (sSetIx2 i TA' TI' TT) :=
  ps_imp h fun Dd σ H ⟨γ, F, D', R, hT, k1, k2, k3, k4⟩ => ⟨γ, F, _, R, hT, fun y F1 H1 c f1 g sz cr nd fr ⟨d, cs, ec, e, hA⟩ => by
    subst ec
    have z := cr.flat rfl
    subst z
    have R1 := R.step g
    obtain ⟨v, f, h1, h2, h3, h4⟩ := R1.get e (by intro z; cases z)
    refine ⟨v, h1, γ, F1, _, R1, hA, fun ka F2 H2 ca fa g2 sza cra fra ⟨m, k, ds, ea, hm, hk, hI⟩ => ?_⟩
    subst ea
    rw [cra.int]
    have R2 := R1.step g2
    obtain ⟨v0, f0, i1, i2, i3, i4⟩ := R2.get e (by intro z; cases z)
    rw [h1] at i1; cases i1
    cases i2 with
    | @ow l vs0 _ fp0 t0 al0 =>
      obtain ⟨x0, ws0, j1, j2, j3, j4, j5⟩ := al0.inner (List.nodup_cons.mp i3).2 hk
      refine .inl (.inl ⟨_, _, m, .ref x0, rfl, rfl, .inl (.inl t0), atI_of (by rw [al0.length]; exact hm) j1, ?_⟩)
      refine ⟨γ, F2, _, R2, hI, fun kb F3 H3 ck fk g3 szk crk frk ⟨n, j, ek, hj, q⟩ => ?_⟩
      subst ek
      rw [crk.int]
      obtain ⟨v2, f2, q1, q2, q3, q4, q5⟩ := R.change ((g.trans g2).trans g3) e (by intro z; cases z)
      rw [h1] at q1; cases q1
      cases q2 with
      | @ow _ vs2 _ fp2 t2 al2 =>
        obtain ⟨x2, ws2, w1, w2, w3, w4, w5⟩ := al2.inner (List.nodup_cons.mp q3).2 hk
        have el : vs0 = vs2 := by
          have z := g3.hh l _ (i4 l List.mem_cons_self).2.2 t0
          rw [z] at t2; cases t2; rfl
        subst el
        rw [j1] at w1; cases w1
        have lw := DpAll.length w4
        refine ⟨_, ws2, n, j, rfl, rfl, w3, by rw [lw]; exact hj, ?_⟩
        have hd : Dp X.K F3 y d := by cases cr with | im h => exact Dp.mono (g2.ff.trans g3.ff) h
        have ne : l ≠ x0 := fun z => (List.nodup_cons.mp q3).1 (by rw [z]; exact w2)
        refine k1 _ F3 σ _ (q5 _ _ (l :: fp2) (fun a nf _ => upd_ne fun z => nf (by rw [z]; exact List.mem_cons_of_mem _ w2)) (.ow (by rw [upd_ne ne]; exact t2) (w5 _ _ (DpAll.set hd j w4))) q3 fun a m => .inl m) ((g.trans g2).trans g3).ff q⟩
/-- x[a].append(e) -/
@[simp] def sApp2 (i : Nat) (TA' TT : XE) : XS := fun E γ => ∃ cs, γ[i]? = some (.ow cs) ∧ TA' γ fun ka => ∃ m k ds, ka = .im (.int m) ∧ ixN cs.length m = some k ∧ cs[k]? = some (.ow (List.map Cell.im ds)) ∧
  TT γ fun c => ∃ d, c = .im d ∧ ds.length < sizeLine ∧ E.nx (γ.set i (.ow (cs.set k (.ow ((ds ++ [d]).map .im)))))
theorem ds_app2 {i : Nat} (h : PS X st (tDrop (tBM X.K "list" rAppend (tOp (rIxAll X.K) (tVar i) (liftR X.K B TA')) (tCons (liftE X.K B TT) tNil)))) : DS X B st (sApp2 i TA' TT) :=
  ps_imp h fun Dd σ H ⟨γ, F, D', R, ⟨cs, e, hA⟩, k1, k2, k3, k4⟩ => by
    obtain ⟨v, f, h1, h2, h3, h4⟩ := R.get e (by intro z; cases z)
    refine ⟨v, h1, γ, F, _, R, hA, fun ka F2 H2 ca fa g2 sza cra fra ⟨m, k, ds, ea, hm, hk, hI⟩ => ?_⟩
    subst ea
    rw [cra.int]
    have R2 := R.step g2
    obtain ⟨v0, f0, i1, i2, i3, i4⟩ := R2.get e (by intro z; cases z)
    rw [h1] at i1; cases i1
    cases i2 with
    | @ow l vs0 _ fp0 t0 al0 =>
      obtain ⟨x0, ws0, j1, j2, j3, j4, j5⟩ := al0.inner (List.nodup_cons.mp i3).2 hk
      refine .inl (.inl ⟨_, _, m, .ref x0, rfl, rfl, .inl (.inl t0), atI_of (by rw [al0.length]; exact hm) j1, ?_⟩)
      refine ⟨.inl ⟨rfl, _, .inl (.inl j3)⟩, γ, F2, _, R2, hI, fun y F3 H3 c f1 g3 sz cr nd fr ⟨d, ec, hl, q⟩ => ?_⟩
      subst ec
      obtain ⟨v2, f2, q1, q2, q3, q4, q5⟩ := R.change (g2.trans g3) e (by intro z; cases z)
      rw [h1] at q1; cases q1
      cases q2 with
      | @ow _ vs2 _ fp2 t2 al2 =>
        obtain ⟨x2, ws2, w1, w2, w3, w4, w5⟩ := al2.inner (List.nodup_cons.mp q3).2 hk
        have el : vs0 = vs2 := by
          have z := g3.hh l _ (i4 l List.mem_cons_self).2.2 t0
          rw [z] at t2; cases t2; rfl
        subst el
        rw [j1] at w1; cases w1
        have lw := DpAll.length w4
        refine ⟨_, ws2, y, rfl, rfl, w3, by rw [lw]; exact hl, ?_⟩
        have hd : Dp X.K F3 y d := by cases cr with | im h => exact h
        have ne : l ≠ x0 := fun z => (List.nodup_cons.mp q3).1 (by rw [z]; exact w2)
        exact k1 _ F3 σ _ (q5 _ _ (l :: fp2) (fun a nf _ => upd_ne fun z => nf (by rw [z]; exact List.mem_cons_of_mem _ w2)) (.ow (by rw [upd_ne ne]; exact t2) (w5 _ _ (DpAll.app w4 (.cons hd .nil)))) q3 fun a m => .inl m) (g2.trans g3).ff q
/-- x.pop(k), dropped -/
@[simp] def sPopAt (i : Nat) (TI' : XE) : XS := fun E γ => ∃ ds, γ[i]? = some (.ow (List.map Cell.im ds)) ∧ TI' γ fun kb => ∃ n j, kb = .im (.int n) ∧ ixN ds.length n = some j ∧ E.nx (γ.set i (.ow ((ds.eraseIdx j).map .im)))
theorem DpAll.erase {K : PySem.W.Frag} {H : Hp} : ∀ {vs : List V} {ds : List D} (n : Nat), DpAll K H vs ds → DpAll K H (vs.eraseIdx n) (ds.eraseIdx n)
  | _, _, _, .nil => .nil
  | _, _, 0, .cons _ hs => hs
  | _, _, n + 1, .cons h hs => .cons h (DpAll.erase n hs)
theorem small_len {n : Nat} {k : Int} {j : Nat} (hz : n ≤ sizeLine) (h : ixN n k = some j) : -(2 ^ 63) ≤ k ∧ k < 2 ^ 63 := by
  obtain ⟨_, _, a, b⟩ := ixN_seq h
  rw [sizeLine_eq] at hz
  exact ⟨by omega, by omega⟩
theorem ds_popAt {i : Nat} (h : PS X st (tDrop (tBM X.K "list" rPopAt (tVar i) (tCons (liftE X.K B TI') tNil)))) : DS X B st (sPopAt i TI') :=
  ps_imp h fun Dd σ H ⟨γ, F, D', R, ⟨ds, e, hT⟩, k1, k2, k3, k4⟩ => by
    obtain ⟨v, f, h1, h2, h3, h4⟩ := R.get e (by intro z; cases z)
    cases h2 with
    | ow t al =>
      refine ⟨_, h1, .inl ⟨rfl, _, .inl (.inl t)⟩, γ, F, _, R, hT, fun y F1 H1 c f1 g sz cr nd fr ⟨n, j, en, hj, q⟩ => ?_⟩
      subst en
      rw [cr.int]
      obtain ⟨v2, f2, q1, q2, q3, q4, q5⟩ := R.change g e (by intro z; cases z)
      rw [h1] at q1; cases q1
      cases q2 with
      | @ow _ vs2 _ fp2 t2 al2 =>
        obtain ⟨dl, ef⟩ := CRs.toDp al2
        subst ef
        have ll := DpAll.length dl
        have hz := sz _ _ (.inl (.inl (.inl t2)))
        obtain ⟨s1, s2, s3, s4⟩ := ixN_seq hj
        obtain ⟨b1, b2⟩ := small_len (by rw [← ll]; exact hz) hj
        obtain ⟨w, hw⟩ : ∃ w, vs2[j]? = some w := ⟨vs2[j]'(by omega), List.getElem?_eq_getElem _⟩
        exact ⟨_, vs2, n, j, w, rfl, rfl, t2, b1, b2, by rw [ll]; exact s1, hw,
          k1 _ F1 σ _ (q5 _ _ [_] (fun a nf _ => upd_ne fun z => nf (by rw [z]; exact List.mem_cons_self)) (.ow upd_same (CRs.ofDp (DpAll.erase j dl))) q3 fun a m => .inl m) g.ff q⟩
/-- x.append(x.pop(k)) -/
@[simp] def sAppPop (i : Nat) (TI' : XE) : XS := fun E γ => ∃ ds, γ[i]? = some (.ow (List.map Cell.im ds)) ∧ TI' γ fun kb => ∃ n j d, kb = .im (.int n) ∧ ixN ds.length n = some j ∧ ds[j]? = some d ∧ E.nx (γ.set i (.ow ((ds.eraseIdx j ++ [d]).map .im)))
theorem ds_appPop {i : Nat} (h : PS X st (tDrop (tBM X.K "list" rAppend (tVar i) (tCons (tBM X.K "list" rPopAt (tVar i) (tCons (liftE X.K B TI') tNil)) tNil)))) : DS X B st (sAppPop i TI') :=
  ps_imp h fun Dd σ H ⟨γ, F, D', R, ⟨ds, e, hT⟩, k1, k2, k3, k4⟩ => by
    obtain ⟨v, f, h1, h2, h3, h4⟩ := R.get e (by intro z; cases z)
    cases h2 with
    | @ow l _ _ _ t al =>
      refine ⟨_, h1, .inl ⟨rfl, _, .inl (.inl t)⟩, _, h1, .inl ⟨rfl, _, .inl (.inl t)⟩, γ, F, _, R, hT, fun y F1 H1 c f1 g sz cr nd fr ⟨n, j, d, en, hj, hd, q⟩ => ?_⟩
      subst en
      rw [cr.int]
      obtain ⟨v2, f2, q1, q2, q3, q4, q5⟩ := R.change g e (by intro z; cases z)
      rw [h1] at q1; cases q1
      cases q2 with
      | @ow _ vs2 _ fp2 t2 al2 =>
        obtain ⟨dl, ef⟩ := CRs.toDp al2
        subst ef
        have ll := DpAll.length dl
        have hz := sz _ _ (.inl (.inl (.inl t2)))
        obtain ⟨s1, s2, s3, s4⟩ := ixN_seq hj
        obtain ⟨b1, b2⟩ := small_len (by rw [← ll]; exact hz) hj
        obtain ⟨w, hw, hwd⟩ := DpAll.get dl hd
        refine ⟨_, vs2, n, j, w, rfl, rfl, t2, b1, b2, by rw [ll]; exact s1, hw, ?_⟩
        refine ⟨_, vs2.eraseIdx j, w, rfl, rfl, upd_same, ?_, ?_⟩
        · rw [List.length_eraseIdx]
          split <;> omega
        · refine k1 _ F1 σ _ (q5 _ _ [l] (fun a nf _ => ?_) (.ow upd_same (CRs.ofDp (DpAll.app (DpAll.erase j dl) (.cons hwd .nil)))) q3 fun a m => .inl m) g.ff q
          have na : a ≠ l := fun z => nf (by rw [z]; exact List.mem_cons_self)
          rw [upd_ne na, upd_ne na]
end
end DL
set_option maxHeartbeats 1000000
namespace DL
open PySem PySem.Spec PyProof.Rows L2
section
variable {P : Program} {w : World} {A : Around} {E : Value → Shared → Prop} {s : Shared}
abbrev emptySet (w : World) : Obj := { cls := .type "set", dict := none, data := .set #[] 0 (.fresh 0 0 (!w.params.followText "set-order")) }
/-- what set(..) leaves -/
def SetMade (w : World) (ns : List Int) (s s2 : Shared) : Prop := ∃ h' tk c, s2 = { s with heap := h', toks := tk } ∧ SetR w h' s.heap.objs.size (fun j => decide (j ∈ ns)) c ∧ c ≤ ns.length ∧ ∀ b o, s.heap.get? b = some o → h'.get? b = some o
theorem setMade_of {ns : List Int} {s s2 : Shared} {wr : List Addr} {t1 : Nat} {o1 : Obj} {c : Nat} (hw : ∀ b ∈ wr, b = s.heap.objs.size + 1)
    (hm : Moved (s.heap.objs.size :: wr) (fun a b => b = a) { s with heap := (s.heap.push (emptySet w)).push o1, toks := t1 } s2) (hc : c ≤ ns.length) (hS : SetR w s2.heap s.heap.objs.size (fun j => decide (j ∈ ns)) c) : SetMade w ns s s2 := by
  obtain ⟨h', g2, d', tk', os'⟩ := s2
  have eg : g2 = s.gens := hm.gens
  have ed : d' = s.drawn := hm.drawn
  have eo : os' = s.os := hm.os
  subst eg ed eo
  refine ⟨h', tk', c, rfl, hS, hc, fun b o e => ?_⟩
  have hb := Heap.lt_size e
  refine hm.heap b o (fun z => ?_) (Heap.get?_push_of_some _ (Heap.get?_push_of_some _ e))
  rcases List.mem_cons.mp z with z | z
  · exact Nat.ne_of_lt hb z
  · exact Nat.ne_of_lt (Nat.lt_succ_of_lt hb) (hw b z)
set_option maxHeartbeats 3200000 in
theorem call_set_lstI {l : Addr} {items : Array Value} (ns : List Int) {Q : Value → Shared → Prop} (hh : A.handled = none) (hl : s.heap.IsList l items) (hit : IntsAre items.toList ns) (hb : ns.length + 1 < scanBound)
    (h : ∀ s2, SetMade w ns s s2 → Q (.ref s.heap.objs.size) s2) : wpAny (model P w) A (call (.type "set") [.ref l]) Q E s := by
  have hisz : items.size = ns.length := by
    have q := IntsAre.length hit
    rw [Array.length_toList] at q
    exact q
  obtain ⟨c, tl, hmro⟩ := F.called_set.mro
  have hmade := F.called_set.made
  have hsub := F.called_set.sub
  refine wpAny_call (codeAny_of_tree ?_)
  show wpAny _ _ (callAny (.type "set") _) _ _ _
  refine wpAny_pure ⟨Code.quiet_builtin _ (by decide +kernel), codeAny_builtin F.entry_type_call ?_⟩
  rw [Around.under_plain (weight_type_call_type "set" [.ref l] []) rfl]
  have h1 := F.called_set.notType
  have h2 := F.called_set.canCreate
  have hct := F.typeCall_set_1 (.ref l)
  repeat (any_goals (first | assumption | wp_step))
  refine codeAny_mono (code_set_led1 (.ref l) (E := E) (Q₁ := fun obj s₁ => obj = .ref s.heap.objs.size ∧ s₁ = { s with heap := s.heap.push (emptySet w) }) ⟨rfl, rfl⟩) fun r s₁ hr => ?_
  rcases r with e | fl
  · exact hr
  cases fl with
  | ret obj =>
    obtain ⟨rfl, rfl⟩ := hr
    have hS : (s.heap.push (emptySet w)).get? s.heap.objs.size = some (emptySet w) := Heap.get?_push_size _ rfl
    have hT : Shared.TypeIs { s with heap := s.heap.push (emptySet w) } (.ref s.heap.objs.size) "set" := ⟨_, hS, rfl⟩
    have hli := F.called_set.init.lookup
    have hbi := F.called_set.init.bind (.ref s.heap.objs.size)
    repeat (any_goals (first | assumption | wp_step))
    refine codeAny_mono (codeAny_call_builtin (R := wants (fun r s₂ => r = .none ∧ SetMade w ns s s₂) E) F.called_set.init.plain F.entry_set_init (check_set_init_1 hT ?_)) fun r₂ s₂ hr₂ => ?_
    · obtain ⟨ol, hol, hcl, nl, hdl⟩ := hl
      obtain ⟨ocls, odict, odata, oslots⟩ := ol
      simp only at hcl hdl
      subst hcl hdl
      have hol' := Heap.get?_push_of_some (emptySet w) hol
      have hsls := F.sub_list_set
      have hslf := F.sub_list_frozenset
      have hne : (Value.type "list" == Value.type "dict") = false := by decide
      have hl1 : (s.heap.push (emptySet w)).IsList l items := ⟨_, hol', rfl, nl, rfl⟩
      unfold Builtin.«set.__init__» noKeywords Builtin.Frozenset.updateFrom
      generalize hPI : pyIter = PI
      wp_walk
      subst hPI
      refine wpAny_pyIter_list hl1 ?_
      refine wpAny_bind (wpAny_runValue ?_)
      have hlS : l < s.heap.objs.size := Heap.lt_size hol
      have hh3 : A.in1.in1.in1.handled = none := by simp [hh]
      have hz1 : (s.heap.push (emptySet w)).objs.size = s.heap.objs.size + 1 := Heap.size_push ..
      have hneI : l ≠ (s.heap.push (emptySet w)).objs.size := by rw [hz1]; exact Nat.ne_of_lt (Nat.lt_succ_of_lt hlS)
      have hSf : s.heap.objs.size ∉ [(s.heap.push (emptySet w)).objs.size, l] := by
        rw [hz1]; simp only [List.mem_cons, List.not_mem_nil, or_false, not_or]
        exact ⟨Nat.ne_of_lt (Nat.lt_succ_self _), Nat.ne_of_gt hlS⟩
      have hval : ∀ (i : Nat) (v : Value), items[i]? = some v → ∃ k t, ns[i]? = some k ∧ v = .int k t := fun i v hv => by
        have hi : i < ns.length := by rw [← hisz]; exact (Array.getElem?_eq_some_iff.mp hv).1
        obtain ⟨t, e⟩ := PyProof.Rows.IntsAre.int_at hit i v (by rw [Array.getElem?_toList]; exact hv)
        refine ⟨ns[i], t, List.getElem?_eq_getElem hi, ?_⟩
        rw [e, List.getD_eq_getElem?_getD, List.getElem?_eq_getElem hi] <;> rfl
      refine set_update_ints ((Walks.list hh3 _ l hneI items).toS) s.heap.objs.size hSf ns hisz hb hval (items.size - 0) 0 _ (by omega) (Nat.zero_le _)
        ⟨⟨_, Heap.get?_push_size _ rfl, rfl, rfl⟩, (hl1.push _)⟩ ⟨0, Nat.le_refl 0, setR_new_at (Heap.get?_push_of_some _ hS)⟩ fun s' c' hm hc' hS' => ?_
      show wpAny _ _ _ _ _ _
      refine wpAny_pure ?_
      show wpAny _ _ (ret Value.none) _ _ _
      rw [hisz] at hc'
      exact wpAny_pure ⟨rfl, setMade_of (fun b m => by rw [List.mem_singleton.mp m, hz1]) hm hc' hS'⟩
    · rcases r₂ with e | fl₂
      · exact hr₂
      cases fl₂ with
      | ret r =>
        obtain ⟨rfl, hm⟩ := hr₂
        repeat (any_goals (first | assumption | wp_step))
        exact h _ hm
      | _ => exact hr₂.elim
  | _ => exact hr.elim
end
end DL
set_option maxHeartbeats 1000000
namespace DL
open PySem PySem.Spec PyProof.Rows L2
def insU (x : Int) : List Int → List Int
  | [] => [x]
  | y :: l => if x < y then x :: y :: l else if x = y then y :: l else y :: insU x l
def sortU (ns : List Int) : List Int := ns.foldr insU []
theorem mem_insU {x k : Int} : ∀ {l : List Int}, k ∈ insU x l ↔ k = x ∨ k ∈ l
  | [] => by simp [insU]
  | y :: l => by
    unfold insU
    split
    · simp
    · split
      · rename_i h; subst h; simp
      · simp only [List.mem_cons, mem_insU (l := l)]
        constructor
        · rintro (h | h | h) <;> simp [h]
        · rintro (h | h | h) <;> simp [h]
theorem asc_insU {x : Int} : ∀ {l : List Int}, l.Pairwise (· < ·) → (insU x l).Pairwise (· < ·)
  | [], _ => by simp [insU]
  | y :: l, h => by
    obtain ⟨h1, h2⟩ := List.pairwise_cons.mp h
    unfold insU
    split
    · rename_i c
      refine List.pairwise_cons.mpr ⟨fun z m => ?_, h⟩
      rcases List.mem_cons.mp m with e | m
      · rw [e]; exact c
      · have := h1 z m; omega
    · split
      · exact h
      · refine List.pairwise_cons.mpr ⟨fun z m => ?_, asc_insU h2⟩
        rcases mem_insU.mp m with e | m
        · omega
        · exact h1 z m
theorem mem_sortU {k : Int} : ∀ {ns : List Int}, k ∈ sortU ns ↔ k ∈ ns
  | [] => by simp [sortU]
  | x :: ns => by
    show k ∈ insU x (sortU ns) ↔ _
    rw [mem_insU, mem_sortU (ns := ns), List.mem_cons]
theorem asc_sortU : ∀ (ns : List Int), (sortU ns).Pairwise (· < ·)
  | [] => List.Pairwise.nil
  | x :: ns => asc_insU (asc_sortU ns)
/-- ascending lists of the same numbers are one -/
theorem asc_one : ∀ {l m : List Int}, l.Pairwise (· < ·) → m.Pairwise (· < ·) → (∀ k, k ∈ l ↔ k ∈ m) → l = m
  | [], [], _, _, _ => rfl
  | [], y :: m, _, _, h => by have := (h y).mpr List.mem_cons_self; cases this
  | x :: l, [], _, _, h => by have := (h x).mp List.mem_cons_self; cases this
  | x :: l, y :: m, hl, hm, h => by
    obtain ⟨l1, l2⟩ := List.pairwise_cons.mp hl
    obtain ⟨m1, m2⟩ := List.pairwise_cons.mp hm
    have e : x = y := by
      have a := (h x).mp List.mem_cons_self
      have b := (h y).mpr List.mem_cons_self
      rcases List.mem_cons.mp a with a | a
      · exact a
      · rcases List.mem_cons.mp b with b | b
        · exact b.symm
        · have := l1 y b; have := m1 x a; omega
    subst e
    rw [asc_one l2 m2 fun k => ?_]
    have z := h k
    simp only [List.mem_cons] at z
    constructor
    · intro hk
      have := l1 k hk
      rcases z.mp (.inr hk) with e | e
      · omega
      · exact e
    · intro hk
      have := m1 k hk
      rcases z.mpr (.inr hk) with e | e
      · omega
      · exact e
theorem asc_len : ∀ (ns : List Int), (sortU ns).length ≤ ns.length
  | [] => Nat.le_refl _
  | x :: ns => by
    have h : ∀ l : List Int, (insU x l).length ≤ l.length + 1 := by
      intro l
      induction l with
      | nil => simp [insU]
      | cons y l ih => unfold insU; split <;> (try split) <;> simp <;> omega
    have := h (sortU ns)
    have := asc_len ns
    show (insU x (sortU ns)).length ≤ ns.length + 1
    omega
def rSetI (K : PySem.W.Frag) (w : World) : List V → Hp → VK → Prop := fun vs H Q => ∃ (l : Addr) (ns : List Int), vs = [V.ref l] ∧ (SqL K H l (ns.map V.int) ∨ SqT K H l (ns.map V.int)) ∧ ns.length + 1 < scanBound ∧
  ∀ a c, H a = none → c = (sortU ns).length → Q (.ref a) (upd H a (SetO w a (fun j => decide (j ∈ ns)) c))
theorem setR_len {w : World} {h : Heap} {a : Addr} {ns : List Int} {c : Nat} (R : SetR w h a (fun j => decide (j ∈ ns)) c) : c = (sortU ns).length := by
  obtain ⟨o, es, ep, t, _, _, _, _, nd, hm, _, _, hs, _⟩ := R
  have nd2 : (sortU ns).Nodup := (asc_sortU ns).imp fun h => by omega
  have p : (es.toList.map keyOf).Perm (sortU ns) := (List.perm_ext_iff_of_nodup nd nd2).mpr fun k => by rw [← hm k, decide_eq_true_eq, mem_sortU]
  have := p.length_eq
  rw [List.length_map, Array.length_toList] at this
  omega
theorem cr_setI {X : Cx} (hc : X.calm = true) : CallR X (.type "set") (rSetI X.K X.w) := by
  intro pins s σ H vs us Q I r h
  obtain ⟨l, ns, rfl, ht, hb, q⟩ := h
  rw [Vals.ref1 r]
  have hn : H s.heap.objs.size = none := I.hok.fresh (Nat.le_refl _)
  have fin : ∀ (h' : Heap) (tk c : Nat), SetR X.w h' s.heap.objs.size (fun j => decide (j ∈ ns)) c → c ≤ ns.length → (∀ b o, s.heap.get? b = some o → h'.get? b = some o) →
      EP X pins σ Q (.ref s.heap.objs.size) { s with heap := h', toks := tk } := fun h' tk c R hcl k =>
    ⟨.ref s.heap.objs.size, upd H s.heap.objs.size (SetO X.w s.heap.objs.size (fun j => decide (j ∈ ns)) c), I.laid (t' := tk) k (Nat.le_refl _) (setO_new R), rfl, q _ c hn (setR_len R)⟩
  have intv : ∀ {us : List Value} {ns : List Int}, Vals (ns.map V.int) us → IntsAre us ns := by
    intro us ns
    induction ns generalizing us with
    | nil => intro h; cases h; exact .nil
    | cons n ns ih => intro h; cases h with | cons h1 h2 => obtain ⟨t, rfl⟩ := h1; exact .cons n t (ih h2)
  rcases ht with ht | ht
  · obtain ⟨its, rv, pl, hz⟩ := I.list ht
    exact call_set_lstI ns (I.ok.hd hc) pl.isList (by simpa using intv rv) hb fun s2 ⟨h', tk, c, e, R, hcl, k⟩ => by subst e; exact fin h' tk c R hcl k
  · obtain ⟨its, rv, pl, hz⟩ := I.tuple ht
    exact call_set_tupI ns (I.ok.hd hc) pl (by simpa using intv rv) hb fun h' tk c R hcl k => fin h' tk c R hcl k
section
variable {X : Cx} {B : Bs} {e : Expr} {T : XE}
@[simp] def xSortSet (T : XE) : XE := fun γ K => T γ fun c => ∃ ns : List Int, seqF c = some (ns.map .int) ∧ ns.length ≤ 4000 ∧ (sortU ns).length < 64 ∧ K (.ow ((sortU ns).map fun n => .im (.int n)))
theorem de_sortSet (h : PE X e (tCB (rSortedSet X.w) (tCons (tCB (rSetI X.K X.w) (tCons (liftR X.K B T) tNil)) tNil))) : DE X B e (xSortSet T) :=
  pe_imp h fun σ H Q ⟨γ, F, Q', R, hT, k⟩ _ => ⟨γ, F, _, R, hT, fun v F1 H1 c f g sz cr fr ⟨ns, e, hl, hl2, q⟩ => by
    have gk : Gives X.K B F H Q' Q := k
    have sq : ∃ l, v = .ref l ∧ (SqL X.K H1 l (ns.map V.int) ∨ SqT X.K H1 l (ns.map V.int)) := by
      rcases seqF_cases e with e | e
      · subst e
        obtain ⟨p, vs, rfl, tt, al⟩ := cr.tup
        rw [DpAll.ints al] at tt
        exact ⟨p, rfl, .inr (SqT.mono g.sub tt)⟩
      · obtain ⟨p, vs, rfl, tt, al⟩ := cr.frl g.sub e
        rw [DpAll.ints al] at tt
        exact ⟨p, rfl, .inl (sq_of g.sub tt)⟩
    obtain ⟨l, rfl, sq⟩ := sq
    refine ⟨l, ns, rfl, sq, by unfold scanBound; omega, fun a n na hn => ?_⟩
    have g2 := Go.new (o := SetO X.w a (fun j => decide (j ∈ ns)) n) g.sub g.dk na
    refine ⟨a, _, n, rfl, upd_same, by omega, fun ms p hp hm hlen np => ?_⟩
    have em : ms = sortU ns := asc_one hp (asc_sortU ns) fun k => by rw [hm k, decide_eq_true_eq, mem_sortU]
    subst em
    have al : DpAll X.K F1 ((sortU ns).map V.int) ((sortU ns).map .int) := by
      generalize sortU ns = l
      induction l with
      | nil => exact .nil
      | cons x l ih => exact .cons (.int x) ih
    exact (gk.from (g.trans g2)).lstD g2.sub g2.dk al (by rw [List.map_map]; exact q) np⟩
end
end DL
set_option maxHeartbeats 1000000
namespace PySem
open PySem.Builtin
open AutoSeq1 in
theorem dl_extend (l : Addr) (items : Array Value) (n : Nat) (b : Addr) (items2 : Array Value) (n2 : Nat) (od : Option Addr) (osl : Array (Option Value)) (hc0 : ¬(!items.isEmpty && Builtin.List.listTooLong (items.size + items2.size)) = true) (hc1 : items.size ≤ sizeLine) (hs2 : items.size + items2.size ≤ sizeLine + 1) :
    Meets (Builtin.«list.extend» ⟨[.ref l, .ref b], []⟩) (fun _ R s => s.heap.get? l = some { cls := .type "list", dict := none, data := .seq items n, slots := #[] } ∧ s.heap.get? b = some { cls := .type "list", dict := od, data := .seq items2 n2, slots := osl } ∧ R (.ok (.ret Value.none)) { s with heap := s.heap.update l (Obj.mapSeq fun x => x ++ items2), toks := s.toks }) :=
  .of_wp fun prog w A R s h => by
    obtain ⟨hp, g, d, tk, os⟩ := s
    obtain ⟨hl, hb, h⟩ := h
    have f1 := idx_int; have f2 := sub_tuple_tuple; have f3 := sub_list_list; have f4 := sub_tuple_list; have f5 := sub_list_tuple
    have hz' : (items ++ items2).size ≤ sizeLine + 1 := by rw [Array.size_append]; exact hs2
    wp_walk using (wpAny_updateSeq hl rfl (hz := hc1) (_hz' := hz')), wpAny_loadPart' hl, wpAny_loadPart' hb
    exact ⟨_, rfl, h⟩
open AutoSeq1 in
theorem dl_extendT (l : Addr) (items : Array Value) (n : Nat) (b : Addr) (items2 : Array Value) (n2 : Nat) (od : Option Addr) (osl : Array (Option Value)) (hc0 : ¬(!items.isEmpty && Builtin.List.listTooLong (items.size + items2.size)) = true) (hc1 : items.size ≤ sizeLine) (hs2 : items.size + items2.size ≤ sizeLine + 1) :
    Meets (Builtin.«list.extend» ⟨[.ref l, .ref b], []⟩) (fun _ R s => s.heap.get? l = some { cls := .type "list", dict := none, data := .seq items n, slots := #[] } ∧ s.heap.get? b = some { cls := .type "tuple", dict := od, data := .seq items2 n2, slots := osl } ∧ R (.ok (.ret Value.none)) { s with heap := s.heap.update l (Obj.mapSeq fun x => x ++ items2), toks := s.toks }) :=
  .of_wp fun prog w A R s h => by
    obtain ⟨hp, g, d, tk, os⟩ := s
    obtain ⟨hl, hb, h⟩ := h
    have f1 := idx_int; have f2 := sub_tuple_tuple; have f3 := sub_list_list; have f4 := sub_tuple_list; have f5 := sub_list_tuple
    have hz' : (items ++ items2).size ≤ sizeLine + 1 := by rw [Array.size_append]; exact hs2
    wp_walk using (wpAny_updateSeq hl rfl (hz := hc1) (_hz' := hz')), wpAny_loadPart' hl, wpAny_loadPart' hb
    exact ⟨_, rfl, h⟩
end PySem
namespace DL
open PySem PySem.Spec PyProof.Rows L2
def rExtendF (K : PySem.W.Frag) : V → List V → Hp → VK → Prop := fun x vs H Q => ∃ l b xs zs, x = .ref l ∧ vs = [.ref b] ∧ H l = some (.lst xs) ∧ (SqL K H b zs ∨ SqT K H b zs) ∧ xs.length + zs.length ≤ sizeLine ∧ Q .non (upd H l (.lst (xs ++ zs)))
theorem mt_extendF {X : Cx} : MtM X "list.extend" (rExtendF X.K) := by
  intro pins s σ H x vs v us Q I rx rv h
  obtain ⟨l, b, xs, zs, rfl, rfl, hH, hB, hz, q⟩ := h
  cases rx
  obtain ⟨u, rfl, ru⟩ := rv.one
  cases ru
  obtain ⟨z, its, n, r, hl, e⟩ := I.lstM hH
  have fin : ∀ its2 : List Value, Vals zs its2 → its.toArray.size + its2.toArray.size ≤ sizeLine → (¬ (!its.toArray.isEmpty && Builtin.List.listTooLong (its.toArray.size + its2.toArray.size)) = true) ∧ wants (EP X pins σ Q) X.xe (.ok (.ret Value.none)) { s with heap := s.heap.update l (Obj.mapSeq fun x => x ++ its2.toArray), toks := s.toks } := fun its2 r2 hsz => by
    refine ⟨by rw [notLongL hsz, Bool.and_false]; exact Bool.false_ne_true, ?_⟩
    refine ⟨.non, _, I.lset (its' := its ++ its2) hH e (by simp) (r.append r2) ?_, rfl, q⟩
    rw [List.length_append]
    omega
  rcases hB with hB | hB
  · obtain ⟨its2, r2, ⟨o, n2, ho, hc, hd, hs⟩, _⟩ := I.list hB
    obtain ⟨ocls, od, odata, osl⟩ := o
    simp only at hc hd hs
    subst hc hd hs
    have hsz : its.toArray.size + its2.toArray.size ≤ sizeLine := by rw [List.size_toArray, List.size_toArray]; have := r2.length; have := r.length; omega
    obtain ⟨f1, f2⟩ := fin its2 r2 hsz
    exact call_meets F.slot_list_extend ⟨_, e, rfl⟩ F.entry_list_extend (F.args_list_extend_2 _ _) (PySem.dl_extend l its.toArray n b its2.toArray n2 _ osl f1 (by rw [List.size_toArray]; omega) (by omega)) ⟨e, ho, f2⟩
  · obtain ⟨its2, r2, ⟨o, ho, hc, n2, hs⟩, _⟩ := I.tuple hB
    obtain ⟨ocls, od, odata, osl⟩ := o
    simp only at hc hs
    subst hc hs
    have hsz : its.toArray.size + its2.toArray.size ≤ sizeLine := by rw [List.size_toArray, List.size_toArray]; have := r2.length; have := r.length; omega
    obtain ⟨f1, f2⟩ := fin its2 r2 hsz
    exact call_meets F.slot_list_extend ⟨_, e, rfl⟩ F.entry_list_extend (F.args_list_extend_2 _ _) (PySem.dl_extendT l its.toArray n b its2.toArray n2 od osl f1 (by rw [List.size_toArray]; omega) (by omega)) ⟨e, ho, f2⟩
section
variable {X : Cx} {B : Bs} {st : Stmt} {TT : XE}
/-- x.extend(e), e data that is read -/
@[simp] def sExtF (i : Nat) (T : XE) : XS := fun E γ => ∃ cs, γ[i]? = some (.ow cs) ∧ T γ fun c => ∃ es, seqF c = some es ∧ cs.length + es.length ≤ sizeLine ∧ E.nx (γ.set i (.ow (cs ++ es.map .im)))
theorem ds_extF {i : Nat} (h : PS X st (tDrop (tBM X.K "list" (rExtendF X.K) (tVar i) (tCons (liftR X.K B TT) tNil)))) : DS X B st (sExtF i TT) :=
  ps_imp h fun Dd σ H ⟨γ, F, D', R, ⟨cs, e, hT⟩, k1, k2, k3, k4⟩ => by
    obtain ⟨v, f, h1, h2, h3, h4⟩ := R.get e (by intro z; cases z)
    cases h2 with
    | @ow l _ _ _ t al =>
      refine ⟨_, h1, .inl ⟨rfl, _, .inl (.inl t)⟩, γ, F, _, R, hT, fun y F1 H1 c f1 g sz cr fr ⟨es, ec, hl, q⟩ => ?_⟩
      obtain ⟨v2, f2, q1, q2, q3, q4, q5⟩ := R.change g e (by intro z; cases z)
      rw [h1] at q1; cases q1
      have sq : ∃ b zs, y = .ref b ∧ (SqL X.K H1 b zs ∨ SqT X.K H1 b zs) ∧ DpAll X.K F1 zs es := by
        rcases seqF_cases ec with ec | ec
        · subst ec
          obtain ⟨p, vs, rfl, tt, al⟩ := cr.tup
          exact ⟨p, vs, rfl, .inr (SqT.mono g.sub tt), al⟩
        · obtain ⟨p, vs, rfl, tt, al⟩ := cr.frl g.sub ec
          exact ⟨p, vs, rfl, .inl (sq_of g.sub tt), al⟩
      obtain ⟨b, zs, rfl, sq, dz⟩ := sq
      cases q2 with
      | @ow _ vs2 _ fp2 t2 al2 =>
        refine ⟨_, b, vs2, zs, rfl, rfl, t2, sq, by rw [al2.length, DpAll.length dz]; exact hl, ?_⟩
        refine k1 _ F1 σ _ (q5 _ _ (l :: (fp2 ++ [])) (fun a nf _ => upd_ne fun z => nf (by rw [z]; exact List.mem_cons_self)) (.ow upd_same (CRs.app (al2.mono (Same.refl _) fun a m o eo => ?_) (CRs.ofDp dz))) ?_ fun a m => ?_) g.ff q
        · rw [upd_ne fun z => (List.nodup_cons.mp q3).1 (by rw [← z]; exact m)]; exact eo
        · rw [List.append_nil]; exact q3
        · rw [List.append_nil] at m; exact .inl m
end
end DL
namespace DL
open PySem PySem.Spec PyProof.Rows L2
@[simp] def cEqS : Cell → Cell → (Cell → Prop) → Prop := fun a b K => ∃ x y : Str, a = .im (.str x) ∧ b = .im (.str y) ∧ K (.im (.bool (decide (x = y))))
@[simp] def cNeS : Cell → Cell → (Cell → Prop) → Prop := fun a b K => ∃ x y : Str, a = .im (.str x) ∧ b = .im (.str y) ∧ K (.im (.bool (!decide (x = y))))
theorem dec_vstr (x y : Str) : decide (V.str x = V.str y) = decide (x = y) := by rw [Bool.eq_iff_iff]; simp
theorem ok_EqS {K : PySem.W.Frag} {B : Bs} : R2Ok K B rEq cEqS := fun F H x y c1 c2 f1 f2 K' Q s d sz h1 h2 ⟨a, b, e1, e2, q⟩ gv => by
  subst e1 e2
  rw [h1.str, h2.str]
  refine ⟨rfl, ?_⟩
  rw [dec_vstr]
  exact gv.data s d (.bl _) q
theorem ok_NeS {K : PySem.W.Frag} {B : Bs} : R2Ok K B rNe cNeS := fun F H x y c1 c2 f1 f2 K' Q s d sz h1 h2 ⟨a, b, e1, e2, q⟩ gv => by
  subst e1 e2
  rw [h1.str, h2.str]
  refine ⟨rfl, ?_⟩
  rw [dec_vstr]
  exact gv.data s d (.bl _) q
end DL
set_option maxHeartbeats 0
namespace L87
open PySem PySem.Spec PyProof.Rows L2 DL
def top (i : Nat) : Stmt := PySem.Challenge.pw_pourasked_k87_whole_carried_back.main.body.getD i (.Pass ⟨0, 0, 0, 0⟩)
abbrev s_is_integer : Stmt := top 9
def d_is_integer : He.DefD := ⟨("is_integer", none), "is_integer", "is_integer", defArgs s_is_integer, defBody s_is_integer, defScope s_is_integer, [], []⟩
abbrev s_is_between : Stmt := top 10
def d_is_between : He.DefD := ⟨("is_between", none), "is_between", "is_between", defArgs s_is_between, defBody s_is_between, defScope s_is_between, [], []⟩
abbrev s_is_pair_of : Stmt := top 11
def d_is_pair_of : He.DefD := ⟨("is_pair_of", none), "is_pair_of", "is_pair_of", defArgs s_is_pair_of, defBody s_is_pair_of, defScope s_is_pair_of, [], []⟩
abbrev s_is_book_value : Stmt := top 12
def d_is_book_value : He.DefD := ⟨("is_book_value", none), "is_book_value", "is_book_value", defArgs s_is_book_value, defBody s_is_book_value, defScope s_is_book_value, [], []⟩
abbrev s_is_hill_value : Stmt := top 13
def d_is_hill_value : He.DefD := ⟨("is_hill_value", none), "is_hill_value", "is_hill_value", defArgs s_is_hill_value, defBody s_is_hill_value, defScope s_is_hill_value, [], []⟩
abbrev s_need_hill : Stmt := top 14
def d_need_hill : He.DefD := ⟨("need_hill", none), "need_hill", "need_hill", defArgs s_need_hill, defBody s_need_hill, defScope s_need_hill, [], []⟩
abbrev s_lows : Stmt := top 15
def d_lows : He.DefD := ⟨("lows", none), "lows", "lows", defArgs s_lows, defBody s_lows, defScope s_lows, [], []⟩
abbrev s_highs : Stmt := top 16
def d_highs : He.DefD := ⟨("highs", none), "highs", "highs", defArgs s_highs, defBody s_highs, defScope s_highs, [], []⟩
abbrev s_hill_of_lows : Stmt := top 17
def d_hill_of_lows : He.DefD := ⟨("hill_of_lows", none), "hill_of_lows", "hill_of_lows", defArgs s_hill_of_lows, defBody s_hill_of_lows, defScope s_hill_of_lows, [], []⟩
abbrev s_closing_of : Stmt := top 18
def d_closing_of : He.DefD := ⟨("closing_of", none), "closing_of", "closing_of", defArgs s_closing_of, defBody s_closing_of, defScope s_closing_of, [], []⟩
abbrev s_mask_of : Stmt := top 19
def d_mask_of : He.DefD := ⟨("mask_of", none), "mask_of", "mask_of", defArgs s_mask_of, defBody s_mask_of, defScope s_mask_of, [], []⟩
abbrev s_lot_of : Stmt := top 20
def d_lot_of : He.DefD := ⟨("lot_of", none), "lot_of", "lot_of", defArgs s_lot_of, defBody s_lot_of, defScope s_lot_of, [], []⟩
abbrev s_is_lot_value : Stmt := top 21
def d_is_lot_value : He.DefD := ⟨("is_lot_value", none), "is_lot_value", "is_lot_value", defArgs s_is_lot_value, defBody s_is_lot_value, defScope s_is_lot_value, [], []⟩
abbrev s_closed_mask : Stmt := top 22
def d_closed_mask : He.DefD := ⟨("closed_mask", none), "closed_mask", "closed_mask", defArgs s_closed_mask, defBody s_closed_mask, defScope s_closed_mask, [], []⟩
abbrev s_lower_mask : Stmt := top 23
def d_lower_mask : He.DefD := ⟨("lower_mask", none), "lower_mask", "lower_mask", defArgs s_lower_mask, defBody s_lower_mask, defScope s_lower_mask, [], []⟩
abbrev s_is_lower_value : Stmt := top 24
def d_is_lower_value : He.DefD := ⟨("is_lower_value", none), "is_lower_value", "is_lower_value", defArgs s_is_lower_value, defBody s_is_lower_value, defScope s_is_lower_value, [], []⟩
abbrev s_ends_of : Stmt := top 25
def d_ends_of : He.DefD := ⟨("ends_of", none), "ends_of", "ends_of", defArgs s_ends_of, defBody s_ends_of, defScope s_ends_of, [], []⟩
abbrev s_highest_of : Stmt := top 26
def d_highest_of : He.DefD := ⟨("highest_of", none), "highest_of", "highest_of", defArgs s_highest_of, defBody s_highest_of, defScope s_highest_of, [], []⟩
abbrev s_lowest_of : Stmt := top 27
def d_lowest_of : He.DefD := ⟨("lowest_of", none), "lowest_of", "lowest_of", defArgs s_lowest_of, defBody s_lowest_of, defScope s_lowest_of, [], []⟩
abbrev s_is_deed_value : Stmt := top 30
def d_is_deed_value : He.DefD := ⟨("is_deed_value", none), "is_deed_value", "is_deed_value", defArgs s_is_deed_value, defBody s_is_deed_value, defScope s_is_deed_value, [], []⟩
abbrev s_is_script_value : Stmt := top 31
def d_is_script_value : He.DefD := ⟨("is_script_value", none), "is_script_value", "is_script_value", defArgs s_is_script_value, defBody s_is_script_value, defScope s_is_script_value, [], []⟩
abbrev s_need_script : Stmt := top 32
def d_need_script : He.DefD := ⟨("need_script", none), "need_script", "need_script", defArgs s_need_script, defBody s_need_script, defScope s_need_script, [], []⟩
abbrev s_reaches : Stmt := top 33
def d_reaches : He.DefD := ⟨("reaches", none), "reaches", "reaches", defArgs s_reaches, defBody s_reaches, defScope s_reaches, [], []⟩
abbrev s_reach_mask : Stmt := top 34
def d_reach_mask : He.DefD := ⟨("reach_mask", none), "reach_mask", "reach_mask", defArgs s_reach_mask, defBody s_reach_mask, defScope s_reach_mask, [], []⟩
abbrev s_done : Stmt := top 35
def d_done : He.DefD := ⟨("done", none), "done", "done", defArgs s_done, defBody s_done, defScope s_done, [], []⟩
abbrev s_couple_masks : Stmt := top 36
def d_couple_masks : He.DefD := ⟨("couple_masks", none), "couple_masks", "couple_masks", defArgs s_couple_masks, defBody s_couple_masks, defScope s_couple_masks, [], []⟩
abbrev s_need_hills : Stmt := top 38
def d_need_hills : He.DefD := ⟨("need_hills", none), "need_hills", "need_hills", defArgs s_need_hills, defBody s_need_hills, defScope s_need_hills, [], []⟩
abbrev s_is_map_value : Stmt := top 39
def d_is_map_value : He.DefD := ⟨("is_map_value", none), "is_map_value", "is_map_value", defArgs s_is_map_value, defBody s_is_map_value, defScope s_is_map_value, [], []⟩
abbrev s_need_map : Stmt := top 40
def d_need_map : He.DefD := ⟨("need_map", none), "need_map", "need_map", defArgs s_need_map, defBody s_need_map, defScope s_need_map, [], []⟩
abbrev s_need_water_maps : Stmt := top 41
def d_need_water_maps : He.DefD := ⟨("need_water_maps", none), "need_water", "need_water", defArgs s_need_water_maps, defBody s_need_water_maps, defScope s_need_water_maps, [], []⟩
abbrev s_carried_mask : Stmt := top 43
def d_carried_mask : He.DefD := ⟨("carried_mask", none), "carried_mask", "carried_mask", defArgs s_carried_mask, defBody s_carried_mask, defScope s_carried_mask, [], []⟩
abbrev s_carried_water : Stmt := top 44
def d_carried_water : He.DefD := ⟨("carried_water", none), "carried_water", "carried_water", defArgs s_carried_water, defBody s_carried_water, defScope s_carried_water, [], []⟩
abbrev s_carried_terraces : Stmt := top 45
def d_carried_terraces : He.DefD := ⟨("carried_terraces", none), "carried_terraces", "carried_terraces", defArgs s_carried_terraces, defBody s_carried_terraces, defScope s_carried_terraces, [], []⟩
abbrev s_deeds_carried : Stmt := top 46
def d_deeds_carried : He.DefD := ⟨("deeds_carried", none), "deeds_carried", "deeds_carried", defArgs s_deeds_carried, defBody s_deeds_carried, defScope s_deeds_carried, [], []⟩
abbrev s_carried_deed : Stmt := top 47
def d_carried_deed : He.DefD := ⟨("carried_deed", none), "carried_deed", "carried_deed", defArgs s_carried_deed, defBody s_carried_deed, defScope s_carried_deed, [], []⟩
abbrev s_carried_script : Stmt := top 48
def d_carried_script : He.DefD := ⟨("carried_script", none), "carried_script", "carried_script", defArgs s_carried_script, defBody s_carried_script, defScope s_carried_script, [], []⟩
abbrev s_is_water : Stmt := top 50
def d_is_water : He.DefD := ⟨("is_water", none), "is_water", "is_water", defArgs s_is_water, defBody s_is_water, defScope s_is_water, [], []⟩
abbrev s_need_water_scripts : Stmt := top 51
def d_need_water_scripts : He.DefD := ⟨("need_water_scripts", none), "need_water", "need_water", defArgs s_need_water_scripts, defBody s_need_water_scripts, defScope s_need_water_scripts, [], []⟩
abbrev s_reach : Stmt := top 53
def d_reach : He.DefD := ⟨("reach", none), "reach", "reach", defArgs s_reach, defBody s_reach, defScope s_reach, [], []⟩
abbrev s_run : Stmt := top 54
def d_run : He.DefD := ⟨("run", none), "run", "run", defArgs s_run, defBody s_run, defScope s_run, [], []⟩
abbrev s_raw_couple : Stmt := top 55
def d_raw_couple : He.DefD := ⟨("raw_couple", none), "raw_couple", "raw_couple", defArgs s_raw_couple, defBody s_raw_couple, defScope s_raw_couple, [], []⟩
abbrev s_couple_of : Stmt := top 56
def d_couple_of : He.DefD := ⟨("couple_of", none), "couple_of", "couple_of", defArgs s_couple_of, defBody s_couple_of, defScope s_couple_of, [], []⟩
abbrev s__law_deck : Stmt := top 58
def d__law_deck : He.DefD := ⟨("_law_deck", none), "_law_deck", "_law_deck", defArgs s__law_deck, defBody s__law_deck, defScope s__law_deck, [], []⟩
abbrev s__law_draw : Stmt := top 59
def d__law_draw : He.DefD := ⟨("_law_draw", none), "_law_draw", "_law_draw", defArgs s__law_draw, defBody s__law_draw, defScope s__law_draw, [], []⟩
abbrev s__law_pick : Stmt := top 60
def d__law_pick : He.DefD := ⟨("_law_pick", none), "_law_pick", "_law_pick", defArgs s__law_pick, defBody s__law_pick, defScope s__law_pick, [], []⟩
abbrev s__law_shuffled : Stmt := top 61
def d__law_shuffled : He.DefD := ⟨("_law_shuffled", none), "_law_shuffled", "_law_shuffled", defArgs s__law_shuffled, defBody s__law_shuffled, defScope s__law_shuffled, [], []⟩
abbrev s__law_closed : Stmt := top 62
def d__law_closed : He.DefD := ⟨("_law_closed", none), "_law_closed", "_law_closed", defArgs s__law_closed, defBody s__law_closed, defScope s__law_closed, [], []⟩
abbrev s__law_hill : Stmt := top 63
def d__law_hill : He.DefD := ⟨("_law_hill", none), "_law_hill", "_law_hill", defArgs s__law_hill, defBody s__law_hill, defScope s__law_hill, [], []⟩
abbrev s__law_sides : Stmt := top 64
def d__law_sides : He.DefD := ⟨("_law_sides", none), "_law_sides", "_law_sides", defArgs s__law_sides, defBody s__law_sides, defScope s__law_sides, [], []⟩
abbrev s__law_closing : Stmt := top 65
def d__law_closing : He.DefD := ⟨("_law_closing", none), "_law_closing", "_law_closing", defArgs s__law_closing, defBody s__law_closing, defScope s__law_closing, [], []⟩
abbrev s__law_outer : Stmt := top 66
def d__law_outer : He.DefD := ⟨("_law_outer", none), "_law_outer", "_law_outer", defArgs s__law_outer, defBody s__law_outer, defScope s__law_outer, [], []⟩
abbrev s__law_lasts : Stmt := top 67
def d__law_lasts : He.DefD := ⟨("_law_lasts", none), "_law_lasts", "_law_lasts", defArgs s__law_lasts, defBody s__law_lasts, defScope s__law_lasts, [], []⟩
abbrev s__law_couple : Stmt := top 68
def d__law_couple : He.DefD := ⟨("_law_couple", none), "_law_couple", "_law_couple", defArgs s__law_couple, defBody s__law_couple, defScope s__law_couple, [], []⟩
abbrev s__law_script : Stmt := top 69
def d__law_script : He.DefD := ⟨("_law_script", none), "_law_script", "_law_script", defArgs s__law_script, defBody s__law_script, defScope s__law_script, [], []⟩
abbrev s__law_lot : Stmt := top 70
def d__law_lot : He.DefD := ⟨("_law_lot", none), "_law_lot", "_law_lot", defArgs s__law_lot, defBody s__law_lot, defScope s__law_lot, [], []⟩
abbrev s__law_led : Stmt := top 71
def d__law_led : He.DefD := ⟨("_law_led", none), "_law_led", "_law_led", defArgs s__law_led, defBody s__law_led, defScope s__law_led, [], []⟩
abbrev s__law_leading : Stmt := top 72
def d__law_leading : He.DefD := ⟨("_law_leading", none), "_law_leading", "_law_leading", defArgs s__law_leading, defBody s__law_leading, defScope s__law_leading, [], []⟩
abbrev s__law_mapped : Stmt := top 73
def d__law_mapped : He.DefD := ⟨("_law_mapped", none), "_law_mapped", "_law_mapped", defArgs s__law_mapped, defBody s__law_mapped, defScope s__law_mapped, [], []⟩
abbrev s__law_carried : Stmt := top 74
def d__law_carried : He.DefD := ⟨("_law_carried", none), "_law_carried", "_law_carried", defArgs s__law_carried, defBody s__law_carried, defScope s__law_carried, [], []⟩
abbrev s__law_due : Stmt := top 75
def d__law_due : He.DefD := ⟨("_law_due", none), "_law_due", "_law_due", defArgs s__law_due, defBody s__law_due, defScope s__law_due, [], []⟩
abbrev s__law_are_deeds_right : Stmt := top 76
def d__law_are_deeds_right : He.DefD := ⟨("_law_are_deeds_right", none), "_law_are_deeds_right", "_law_are_deeds_right", defArgs s__law_are_deeds_right, defBody s__law_are_deeds_right, defScope s__law_are_deeds_right, [], []⟩
abbrev s__law_told_couple : Stmt := top 77
def d__law_told_couple : He.DefD := ⟨("_law_told_couple", none), "_law_told_couple", "_law_told_couple", defArgs s__law_told_couple, defBody s__law_told_couple, defScope s__law_told_couple, [], []⟩
abbrev s__law_is_led_right : Stmt := top 78
def d__law_is_led_right : He.DefD := ⟨("_law_is_led_right", none), "_law_is_led_right", "_law_is_led_right", defArgs s__law_is_led_right, defBody s__law_is_led_right, defScope s__law_is_led_right, [], []⟩
abbrev s__law_is_twice_right : Stmt := top 79
def d__law_is_twice_right : He.DefD := ⟨("_law_is_twice_right", none), "_law_is_twice_right", "_law_is_twice_right", defArgs s__law_is_twice_right, defBody s__law_is_twice_right, defScope s__law_is_twice_right, [], []⟩
abbrev s_law : Stmt := top 80
def d_law : He.DefD := ⟨("law", none), "law", "law", defArgs s_law, defBody s_law, defScope s_law, [], []⟩
def fn_0 : List He.DefD := [d_is_integer, d_is_between, d_is_pair_of, d_is_book_value, d_is_hill_value, d_need_hill, d_lows, d_highs, d_hill_of_lows, d_closing_of, d_mask_of, d_lot_of, d_is_lot_value, d_closed_mask, d_lower_mask, d_is_lower_value, d_ends_of, d_highest_of, d_lowest_of, d_is_deed_value, d_is_script_value, d_need_script, d_reaches, d_reach_mask, d_done, d_couple_masks, d_need_hills, d_is_map_value, d_need_map, d_need_water_maps, d_carried_mask, d_carried_water, d_carried_terraces, d_deeds_carried, d_carried_deed]
def fn_1 : List He.DefD := [d_carried_script, d_is_water, d_need_water_scripts, d_reach, d_run, d_raw_couple, d_couple_of, d__law_deck, d__law_draw, d__law_pick, d__law_shuffled, d__law_closed, d__law_hill, d__law_sides, d__law_closing, d__law_outer, d__law_lasts, d__law_couple, d__law_script, d__law_lot, d__law_led, d__law_leading, d__law_mapped, d__law_carried, d__law_due, d__law_are_deeds_right, d__law_told_couple, d__law_is_led_right, d__law_is_twice_right, d_law]
def fn : List He.DefD := fn_0 ++ fn_1
def fa_0 : List He.Fa := [.glo "is_integer", .glo "is_between", .glo "is_pair_of", .glo "is_book_value", .glo "is_hill_value", .glo "need_hill", .glo "lows", .glo "highs", .glo "hill_of_lows", .glo "closing_of", .glo "mask_of", .glo "lot_of", .glo "is_lot_value", .glo "closed_mask", .glo "lower_mask", .glo "is_lower_value", .glo "ends_of", .glo "highest_of", .glo "lowest_of", .glo "is_deed_value", .glo "is_script_value", .glo "need_script", .glo "reaches", .glo "reach_mask", .glo "done", .glo "couple_masks", .glo "need_hills", .glo "is_map_value", .glo "need_map", .glo "need_water_maps", .glo "carried_mask", .glo "carried_water", .glo "carried_terraces", .glo "deeds_carried", .glo "carried_deed"]
def fa_1 : List He.Fa := [.glo "carried_script", .glo "is_water", .glo "need_water_scripts", .glo "reach", .glo "run", .glo "raw_couple", .glo "couple_of", .glo "_law_deck", .glo "_law_draw", .glo "_law_pick", .glo "_law_shuffled", .glo "_law_closed", .glo "_law_hill", .glo "_law_sides", .glo "_law_closing", .glo "_law_outer", .glo "_law_lasts", .glo "_law_couple", .glo "_law_script", .glo "_law_lot", .glo "_law_led", .glo "_law_leading", .glo "_law_mapped", .glo "_law_carried", .glo "_law_due", .glo "_law_are_deeds_right", .glo "_law_told_couple", .glo "_law_is_led_right", .glo "_law_is_twice_right", .glo "law", .free "Exception", .free "all", .free "bool", .free "enumerate", .free "int"]
def fa_2 : List He.Fa := [.free "isinstance", .free "len", .free "list", .free "max", .free "range", .free "repr", .free "set", .free "sorted", .free "str", .free "super", .free "tuple", .free "zip", .int "MOST_TERRACES" 10, .glo "WORDS"]
def fa : List He.Fa := fa_0 ++ fa_1 ++ fa_2
def tps : List (Str × List He.Dv) := [("WORDS", [.str "pour", .str "open"])]
def tf : List He.Defn := []
def lse_0 : List Str := [("HillError" : Str), ("BadHill" : Str), ("BadWater" : Str), ("BadDeed" : Str), ("BadScript" : Str), ("BadMap" : Str), ("MOST_TERRACES" : Str), ("is_integer" : Str), ("is_between" : Str), ("is_pair_of" : Str), ("is_book_value" : Str), ("is_hill_value" : Str), ("need_hill" : Str), ("lows" : Str), ("highs" : Str), ("hill_of_lows" : Str), ("closing_of" : Str), ("mask_of" : Str), ("lot_of" : Str), ("is_lot_value" : Str), ("closed_mask" : Str), ("lower_mask" : Str), ("is_lower_value" : Str), ("ends_of" : Str), ("highest_of" : Str), ("lowest_of" : Str), ("WORDS" : Str), ("is_deed_value" : Str), ("is_script_value" : Str), ("need_script" : Str), ("reaches" : Str), ("reach_mask" : Str), ("done" : Str), ("couple_masks" : Str), ("need_hills" : Str)]
def lse_1 : List Str := [("is_map_value" : Str), ("need_map" : Str), ("need_water" : Str), ("need_water_maps" : Str), ("carried_mask" : Str), ("carried_water" : Str), ("carried_terraces" : Str), ("deeds_carried" : Str), ("carried_deed" : Str), ("carried_script" : Str), ("is_water" : Str), ("need_water_scripts" : Str), ("reach" : Str), ("run" : Str), ("raw_couple" : Str), ("couple_of" : Str), ("_law_deck" : Str), ("_law_draw" : Str), ("_law_pick" : Str), ("_law_shuffled" : Str), ("_law_closed" : Str), ("_law_hill" : Str), ("_law_sides" : Str), ("_law_closing" : Str), ("_law_outer" : Str), ("_law_lasts" : Str), ("_law_couple" : Str), ("_law_script" : Str), ("_law_lot" : Str), ("_law_led" : Str), ("_law_leading" : Str), ("_law_mapped" : Str), ("_law_carried" : Str), ("_law_due" : Str), ("_law_are_deeds_right" : Str)]
def lse_2 : List Str := [("_law_told_couple" : Str), ("_law_is_led_right" : Str), ("_law_is_twice_right" : Str)]
def lse : List Str := lse_0 ++ lse_1 ++ lse_2
abbrev R : PySem.W.OpenRow := PySem.W.OpenLaw.row PySem.Challenge.rw_pourasked_k87_whole_carried_back
abbrev hk : PySem.W.Hook := He.hookX 4 fa fn [] tf (exT tps)
def ob (s : PySem.W.SharedT) : He.AlX := He.obsX 4 fa fn [] tf (exT tps) (HandSHeadRun.getT s)
theorem ob_eq (s : PySem.W.SharedT) : ob s = hk.obs s.abs := He.obsX_eq (HandSHeadRun.getT_eq s)
theorem run (w : World) : HandSHeadRun.RunEq R (PySem.W.view R.prog [80]) hk ob 4000 lse w := by
  intro os
  kernel_rfl
end L87
set_option maxHeartbeats 2000000
namespace L87
open PySem PySem.Spec PyProof.Rows L2 DL
structure Gs (K : PySem.W.Frag) (mg : Str → Option Value) : Prop where
  f_Exception : mg "Exception" = none
  f_all : mg "all" = none
  f_bool : mg "bool" = none
  f_enumerate : mg "enumerate" = none
  f_int : mg "int" = none
  f_isinstance : mg "isinstance" = none
  f_len : mg "len" = none
  f_list : mg "list" = none
  f_max : mg "max" = none
  f_range : mg "range" = none
  f_repr : mg "repr" = none
  f_set : mg "set" = none
  f_sorted : mg "sorted" = none
  f_str : mg "str" = none
  f_super : mg "super" = none
  f_tuple : mg "tuple" = none
  f_zip : mg "zip" = none
  c_MOST_TERRACES : ∃ t, mg "MOST_TERRACES" = some (.int 10 t)
  c_WORDS : ∃ a, mg "WORDS" = some (.ref a) ∧ ∀ H, SqT K H a ([("pour" : Str), ("open" : Str)].map V.str)
abbrev N_is_integer : List Str := [("thing" : Str)]
abbrev P_is_integer : List Str := [("thing" : Str)]
theorem sc_is_integer : FnScope N_is_integer P_is_integer (defScope s_is_integer) := ⟨rfl, rfl, rfl, by decide +kernel, rfl, by decide +kernel, by decide +kernel⟩
def T_is_integer : XS := (sRet (xAnd (xIsi (xVarR 0) "int") (xNot (xIsi (xVarR 0) "bool"))))
theorem b_is_integer {P : Program} {w : World} {K : PySem.W.Frag} {mg : Str → Option Value} {base : Heap} {dn : Dn} {f : Addr}  (G : Gs K mg) (cdv : Value) (A : Around) (outer : List Env) (s : Shared) (H : Hp) (E : XK) (B : Bs) (hB : B.dn = dn) (hr : Room 0 (A.deeper (envOfC "is_integer" (defScope s_is_integer) s.heap.objs.size f cdv))) (hgd : A.guards = some []) : DSs (cxOf CX0 P w K mg base N_is_integer "is_integer" (defScope s_is_integer) f cdv A outer s H E).nox B (defBody s_is_integer) (T_is_integer) := by
  subst hB
  have nd := sc_is_integer.nd
  exact (dss_one (ds_ret (de_and (de_isi (ty := "int") rfl G.f_isinstance rfl G.f_int boot_int (by decide) (by decide) (dr_var (i := 0))) (de_one (de_not (de_isi (ty := "bool") rfl G.f_isinstance rfl G.f_bool boot_bool (by decide) (by decide) (dr_var (i := 0))))))))
abbrev N_is_between : List Str := [("thing" : Str), ("least" : Str), ("most" : Str)]
abbrev P_is_between : List Str := [("thing" : Str), ("least" : Str), ("most" : Str)]
theorem sc_is_between : FnScope N_is_between P_is_between (defScope s_is_between) := ⟨rfl, rfl, rfl, by decide +kernel, rfl, by decide +kernel, by decide +kernel⟩
def T_is_between (S_is_integer : FS) : XS := (sRet (xAnd (xCall S_is_integer (xCons (xVar 0) xNil)) (xChain (fun i j => decide (i ≤ j)) (fun i j => decide (i ≤ j)) (xVarR 1) (xVarR 0) (xVarR 2))))
theorem b_is_between {P : Program} {w : World} {K : PySem.W.Frag} {mg : Str → Option Value} {base : Heap} {dn : Dn} {f : Addr}{ S_is_integer : FS}  (G : Gs K mg) (c_is_integer : Cal P w K mg base dn 1 "is_integer" s_is_integer P_is_integer S_is_integer) (cdv : Value) (A : Around) (outer : List Env) (s : Shared) (H : Hp) (E : XK) (B : Bs) (hB : B.dn = dn) (hr : Room 1 (A.deeper (envOfC "is_between" (defScope s_is_between) s.heap.objs.size f cdv))) (hgd : A.guards = some []) : DSs (cxOf CX0 P w K mg base N_is_between "is_between" (defScope s_is_between) f cdv A outer s H E).nox B (defBody s_is_between) (T_is_between S_is_integer) := by
  subst hB
  have nd := sc_is_between.nd
  exact (dss_one (ds_ret (de_and (c_is_integer.de hr hgd (by decide) rfl (da_cons (de_var (i := 0)) da_nil)) (de_one (de_chain op_le op_le (dr_var (i := 1)) (dr_var (i := 0)) (dr_var (i := 2)))))))
abbrev N_is_pair_of : List Str := [("n" : Str), ("thing" : Str)]
abbrev P_is_pair_of : List Str := [("n" : Str), ("thing" : Str)]
theorem sc_is_pair_of : FnScope N_is_pair_of P_is_pair_of (defScope s_is_pair_of) := ⟨rfl, rfl, rfl, by decide +kernel, rfl, by decide +kernel, by decide +kernel⟩
def T_is_pair_of (S_is_between : FS) : XS := (sSeq (sIf (tOrX (tNotX (tBl (xIsi (xVarR 1) "tuple"))) (tBl (x2 cNe (xCB cLen (xCons (xVarR 1) xNil)) (xC (.int 2))))) (sRet (xC (.bool false))) sNext) (sRet (xAnd (xCall S_is_between (xCons (xFlat (xIx (xVarR 1) (xC (.int 0)))) (xCons (xC (.int 0)) (xCons (x2 (cI0 fun i j => i - j) (xVarR 0) (xC (.int 1))) xNil)))) (xAnd (xCall S_is_between (xCons (xFlat (xIx (xVarR 1) (xC (.int 1)))) (xCons (xC (.int 0)) (xCons (x2 (cI0 fun i j => i - j) (xVarR 0) (xC (.int 1))) xNil)))) (x2 cNe (xIx (xVarR 1) (xC (.int 0))) (xIx (xVarR 1) (xC (.int 1))))))))
theorem b_is_pair_of {P : Program} {w : World} {K : PySem.W.Frag} {mg : Str → Option Value} {base : Heap} {dn : Dn} {f : Addr}{ S_is_between : FS}  (G : Gs K mg) (c_is_between : Cal P w K mg base dn 2 "is_between" s_is_between P_is_between S_is_between) (cdv : Value) (A : Around) (outer : List Env) (s : Shared) (H : Hp) (E : XK) (B : Bs) (hB : B.dn = dn) (hr : Room 2 (A.deeper (envOfC "is_pair_of" (defScope s_is_pair_of) s.heap.objs.size f cdv))) (hgd : A.guards = some []) : DSs (cxOf CX0 P w K mg base N_is_pair_of "is_pair_of" (defScope s_is_pair_of) f cdv A outer s H E).nox B (defBody s_is_pair_of) (T_is_pair_of S_is_between) := by
  subst hB
  have nd := sc_is_pair_of.nd
  exact (dss_cons (ds_if (dt_w (dw_or (dt_not (dt_val (de_isi (ty := "tuple") rfl G.f_isinstance rfl G.f_tuple boot_tuple (by decide) (by decide) (dr_var (i := 1))))) (dw_or1 (dt_cmp (op_neD (rm64 hr)) (by rfl) ok_Ne (dr_of_de (de_cb ok_len (pe_callB call_len (by rfl) G.f_len boot_len (pa_sz (db_cons (dr_var (i := 1)) db_nil))))) (dr_of_de de_int))))) (dss_one (ds_ret de_bl)) dss_nil) (dss_one (ds_ret (de_and (c_is_between.de hr hgd (by decide) rfl (da_cons (de_of_dr (dr_ix (rm1 hr) (dr_var (i := 1)) (dr_of_de de_int))) (da_cons de_int (da_cons (de_op op_sub ok_I0 (dr_var (i := 0)) (dr_of_de de_int)) da_nil)))) (de_and (c_is_between.de hr hgd (by decide) rfl (da_cons (de_of_dr (dr_ix (rm1 hr) (dr_var (i := 1)) (dr_of_de de_int))) (da_cons de_int (da_cons (de_op op_sub ok_I0 (dr_var (i := 0)) (dr_of_de de_int)) da_nil)))) (de_one (de_cmp (op_neD (rm64 hr)) (by rfl) ok_Ne (dr_ix (rm1 hr) (dr_var (i := 1)) (dr_of_de de_int)) (dr_ix (rm1 hr) (dr_var (i := 1)) (dr_of_de de_int)))))))))
abbrev N_is_book_value : List Str := [("thing" : Str), ("pair" : Str), ("one" : Str), ("other" : Str)]
abbrev P_is_book_value : List Str := [("thing" : Str)]
theorem sc_is_book_value : FnScope N_is_book_value P_is_book_value (defScope s_is_book_value) := ⟨rfl, rfl, rfl, by decide +kernel, rfl, by decide +kernel, by decide +kernel⟩
def T_is_book_value (S_is_between : FS) (S_is_pair_of : FS) : XS := (sSeq (sIf (tOrX (tNotX (tBl (xIsi (xVarR 0) "tuple"))) (tOrX (tBl (x2 cNe (xCB cLen (xCons (xVarR 0) xNil)) (xC (.int 2)))) (tNotX (tBl (xCall S_is_between (xCons (xFlat (xIx (xVarR 0) (xC (.int 0)))) (xCons (xC (.int 1)) (xCons (xC (.int 10)) xNil)))))))) (sRet (xC (.bool false))) sNext) (sSeq (sIf (tOrX (tNotX (tBl (xIsi (xIx (xVarR 0) (xC (.int 1))) "tuple"))) (tNotX (tBl (xCB cAll (xCons (xLC (xSeq (xIx (xVarR 0) (xC (.int 1)))) (gNm 1) uYes (xCall S_is_pair_of (xCons (xFlat (xIx (xVarR 0) (xC (.int 0)))) (xCons (xVar 1) xNil))) [1]) xNil))))) (sRet (xC (.bool false))) sNext) (sRet (xCB cAll (xCons (xLC (xZip (xCons (xIx (xVarR 0) (xC (.int 1))) (xCons (xSl (xIx (xVarR 0) (xC (.int 1))) (xPart (xC (.int 1))) xNoPart) xNil))) (gTp 2 (gC (gNm 2) (gC (gNm 3) gN0))) uYes (x2 cLtD (xVarR 2) (xVarR 3)) [2, 3]) xNil)))))
theorem b_is_book_value {P : Program} {w : World} {K : PySem.W.Frag} {mg : Str → Option Value} {base : Heap} {dn : Dn} {f : Addr}{ S_is_between S_is_pair_of : FS}  (G : Gs K mg) (c_is_between : Cal P w K mg base dn 2 "is_between" s_is_between P_is_between S_is_between) (c_is_pair_of : Cal P w K mg base dn 3 "is_pair_of" s_is_pair_of P_is_pair_of S_is_pair_of) (cdv : Value) (A : Around) (outer : List Env) (s : Shared) (H : Hp) (E : XK) (B : Bs) (hB : B.dn = dn) (hr : Room 3 (A.deeper (envOfC "is_book_value" (defScope s_is_book_value) s.heap.objs.size f cdv))) (hgd : A.guards = some []) : DSs (cxOf CX0 P w K mg base N_is_book_value "is_book_value" (defScope s_is_book_value) f cdv A outer s H E).nox B (defBody s_is_book_value) (T_is_book_value S_is_between S_is_pair_of) := by
  subst hB
  have nd := sc_is_book_value.nd
  exact (dss_cons (ds_if (dt_w (dw_or (dt_not (dt_val (de_isi (ty := "tuple") rfl G.f_isinstance rfl G.f_tuple boot_tuple (by decide) (by decide) (dr_var (i := 0))))) (dw_or (dt_cmp (op_neD (rm64 hr)) (by rfl) ok_Ne (dr_of_de (de_cb ok_len (pe_callB call_len (by rfl) G.f_len boot_len (pa_sz (db_cons (dr_var (i := 0)) db_nil))))) (dr_of_de de_int)) (dw_or1 (dt_not (dt_val (c_is_between.de hr hgd (by decide) rfl (da_cons (de_of_dr (dr_ix (rm1 hr) (dr_var (i := 0)) (dr_of_de de_int))) (da_cons de_int (da_cons (de_globI rfl G.c_MOST_TERRACES) da_nil)))))))))) (dss_one (ds_ret de_bl)) dss_nil) (dss_cons (ds_if (dt_w (dw_or (dt_not (dt_val (de_isi (ty := "tuple") rfl G.f_isinstance rfl G.f_tuple boot_tuple (by decide) (by decide) (dr_ix (rm1 hr) (dr_var (i := 0)) (dr_of_de de_int))))) (dw_or1 (dt_not (dt_val (de_cb ok_all (pe_callB (cr_all rfl) (by rfl) G.f_all boot_all (pa_sz (db_cons (dr_of_de (de_lc (pe_lc (own := [(("pair" : Str), 1)]) rfl nd (dib_seq (dr_ix (rm1 hr) (dr_var (i := 0)) (dr_of_de de_int))) (blkOk_by (by kernel_rfl)) (fun _ _ _ _ _ => (dg_name (i := 1) nd)) (fun _ _ _ _ _ => dts_nil) (fun _ _ _ _ _ => (c_is_pair_of.de hr hgd (by decide) rfl (da_cons (de_of_dr (dr_ix (rm1 hr) (dr_var (i := 0)) (dr_of_de de_int))) (da_cons (de_var (i := 1)) da_nil))))))) db_nil))))))))) (dss_one (ds_ret de_bl)) dss_nil) (dss_one (ds_ret (de_cb ok_all (pe_callB (cr_all rfl) (by rfl) G.f_all boot_all (pa_sz (db_cons (dr_of_de (de_lc (pe_lc (own := [(("one" : Str), 2), (("other" : Str), 3)]) rfl nd (dib_zip (pi_zipB rfl G.f_zip (db_cons (dr_ix (rm1 hr) (dr_var (i := 0)) (dr_of_de de_int)) (db_cons (dr_of_de (de_sl (dr_ix (rm1 hr) (dr_var (i := 0)) (dr_of_de de_int)) (do_some (dr_of_de de_int)) do_none)) db_nil)))) (blkOk_by (by kernel_rfl)) (fun _ _ _ _ _ => (dg_tup rfl (dgs_cons (dg_name (i := 2) nd) (dgs_cons (dg_name (i := 3) nd) dgs_nil)))) (fun _ _ _ _ _ => dts_nil) (fun _ _ _ _ _ => (de_cmp (op_ltD (rm65 hr)) (by rfl) ok_LtD (dr_var (i := 2)) (dr_var (i := 3))))))) db_nil))))))))
abbrev N_is_hill_value : List Str := [("thing" : Str)]
abbrev P_is_hill_value : List Str := [("thing" : Str)]
theorem sc_is_hill_value : FnScope N_is_hill_value P_is_hill_value (defScope s_is_hill_value) := ⟨rfl, rfl, rfl, by decide +kernel, rfl, by decide +kernel, by decide +kernel⟩
def T_is_hill_value (S_is_book_value : FS) (S_closing_of : FS) : XS := (sRet (xAnd (xCall S_is_book_value (xCons (xVar 0) xNil)) (x2 cEq (xCall S_closing_of (xCons (xVar 0) xNil)) (xVarR 0))))
theorem b_is_hill_value {P : Program} {w : World} {K : PySem.W.Frag} {mg : Str → Option Value} {base : Heap} {dn : Dn} {f : Addr}{ S_is_book_value S_closing_of : FS}  (G : Gs K mg) (c_is_book_value : Cal P w K mg base dn 4 "is_book_value" s_is_book_value P_is_book_value S_is_book_value) (c_closing_of : Cal P w K mg base dn 2 "closing_of" s_closing_of P_closing_of S_closing_of) (cdv : Value) (A : Around) (outer : List Env) (s : Shared) (H : Hp) (E : XK) (B : Bs) (hB : B.dn = dn) (hr : Room 4 (A.deeper (envOfC "is_hill_value" (defScope s_is_hill_value) s.heap.objs.size f cdv))) (hgd : A.guards = some []) : DSs (cxOf CX0 P w K mg base N_is_hill_value "is_hill_value" (defScope s_is_hill_value) f cdv A outer s H E).nox B (defBody s_is_hill_value) (T_is_hill_value S_is_book_value S_closing_of) := by
  subst hB
  have nd := sc_is_hill_value.nd
  exact (dss_one (ds_ret (de_and (c_is_book_value.de hr hgd (by decide) rfl (da_cons (de_var (i := 0)) da_nil)) (de_one (de_cmp (op_eqD (rm64 hr)) (by rfl) ok_Eq (dr_of_de (c_closing_of.de hr hgd (by decide) rfl (da_cons (de_var (i := 0)) da_nil))) (dr_var (i := 0)))))))
abbrev N_need_hill : List Str := [("hill" : Str)]
abbrev P_need_hill : List Str := [("hill" : Str)]
theorem sc_need_hill : FnScope N_need_hill P_need_hill (defScope s_need_hill) := ⟨rfl, rfl, rfl, by decide +kernel, rfl, by decide +kernel, by decide +kernel⟩
def T_need_hill (S_is_hill_value : FS) : XS := (sIf (tNotX (tBl (xCall S_is_hill_value (xCons (xVar 0) xNil)))) sNever sNext)
theorem b_need_hill {P : Program} {w : World} {K : PySem.W.Frag} {mg : Str → Option Value} {base : Heap} {dn : Dn} {f : Addr}{ S_is_hill_value : FS}  (G : Gs K mg) (c_is_hill_value : Cal P w K mg base dn 5 "is_hill_value" s_is_hill_value P_is_hill_value S_is_hill_value) (cdv : Value) (A : Around) (outer : List Env) (s : Shared) (H : Hp) (E : XK) (B : Bs) (hB : B.dn = dn) (hr : Room 5 (A.deeper (envOfC "need_hill" (defScope s_need_hill) s.heap.objs.size f cdv))) (hgd : A.guards = some []) : DSs (cxOf CX0 P w K mg base N_need_hill "need_hill" (defScope s_need_hill) f cdv A outer s H E).nox B (defBody s_need_hill) (T_need_hill S_is_hill_value) := by
  subst hB
  have nd := sc_need_hill.nd
  exact (dss_one (ds_if (dt_not (dt_val (c_is_hill_value.de hr hgd (by decide) rfl (da_cons (de_var (i := 0)) da_nil)))) (dss_one ds_never) dss_nil))
abbrev N_lows : List Str := [("hill" : Str), ("found" : Str), ("a" : Str), ("b" : Str), ("x" : Str)]
abbrev P_lows : List Str := [("hill" : Str)]
theorem sc_lows : FnScope N_lows P_lows (defScope s_lows) := ⟨rfl, rfl, rfl, by decide +kernel, rfl, by decide +kernel, by decide +kernel⟩
def T_lows : XS := (sSeq (sSet 1 (xLC (xRange1 (xCons (xIx (xVarR 0) (xC (.int 0))) xNil)) (gNm 4) uYes (x2 (cI CPow fun i j => i * 2 ^ j.toNat) (xC (.int 1)) (xVarR 4)) [4])) (sSeq (sFor (xSeq (xFlat (xIx (xVarR 0) (xC (.int 1))))) (gTp 2 (gC (gNm 2) (gC (gNm 3) gN0))) (sSetIx 1 (xVarR 3) (x2 (cI0 Builtin.bitOr) (xIx (xVarR 1) (xVarR 3)) (x2 (cI CPow fun i j => i * 2 ^ j.toNat) (xC (.int 1)) (xVarR 2))))) (sRetV 1)))
theorem b_lows {P : Program} {w : World} {K : PySem.W.Frag} {mg : Str → Option Value} {base : Heap} {dn : Dn} {f : Addr}  (G : Gs K mg) (cdv : Value) (A : Around) (outer : List Env) (s : Shared) (H : Hp) (E : XK) (B : Bs) (hB : B.dn = dn) (hr : Room 0 (A.deeper (envOfC "lows" (defScope s_lows) s.heap.objs.size f cdv))) (hgd : A.guards = some []) : DSs (cxOf CX0 P w K mg base N_lows "lows" (defScope s_lows) f cdv A outer s H E).nox B (defBody s_lows) (T_lows) := by
  subst hB
  have nd := sc_lows.nd
  exact (dss_cons (ds_setLc (ps_setLc (i := 1) (own := [(("x" : Str), 4)]) rfl nd rfl rfl (sw_true rfl rfl rfl (by decide +kernel)) (dib_of (dif_range1 (pi_range1 rfl G.f_range (db_cons (dr_ix (rm1 hr) (dr_var (i := 0)) (dr_of_de de_int)) db_nil)))) (blkOk_by (by kernel_rfl)) (fun _ _ _ _ _ => (dg_name (i := 4) nd)) (fun _ _ _ _ _ => dts_nil) (fun _ _ _ _ _ => (de_op op_shl ok_I (dr_of_de de_int) (dr_var (i := 4)))))) (dss_cons (ds_for (ps_for PassesOwn.never rfl (dif_seq (de_of_dr (dr_ix (rm1 hr) (dr_var (i := 0)) (dr_of_de de_int)))) (dg_tup rfl (dgs_cons (dg_name (i := 2) nd) (dgs_cons (dg_name (i := 3) nd) dgs_nil))) (dss_one (ds_setIx (ps_asg (de_op op_or ok_I0 (dr_ix (rm1 hr) (dr_var (i := 1)) (dr_var (i := 3))) (dr_of_de (de_op op_shl ok_I (dr_of_de de_int) (dr_var (i := 2))))) (pg_sub (pe_var (i := 1) rfl (by first | exact Or.inl rfl | exact Or.inr (Or.inl rfl) | exact Or.inr (Or.inr rfl))) (dr_var (i := 3)) set_list)))))) (dss_one (ds_retv (i := 1) (ps_ret (pe_var rfl (by first | exact Or.inl rfl | exact Or.inr (Or.inl rfl) | exact Or.inr (Or.inr rfl))))))))
abbrev N_highs : List Str := [("hill" : Str), ("found" : Str), ("a" : Str), ("b" : Str), ("x" : Str)]
abbrev P_highs : List Str := [("hill" : Str)]
theorem sc_highs : FnScope N_highs P_highs (defScope s_highs) := ⟨rfl, rfl, rfl, by decide +kernel, rfl, by decide +kernel, by decide +kernel⟩
def T_highs : XS := (sSeq (sSet 1 (xLC (xRange1 (xCons (xIx (xVarR 0) (xC (.int 0))) xNil)) (gNm 4) uYes (x2 (cI CPow fun i j => i * 2 ^ j.toNat) (xC (.int 1)) (xVarR 4)) [4])) (sSeq (sFor (xSeq (xFlat (xIx (xVarR 0) (xC (.int 1))))) (gTp 2 (gC (gNm 2) (gC (gNm 3) gN0))) (sSetIx 1 (xVarR 2) (x2 (cI0 Builtin.bitOr) (xIx (xVarR 1) (xVarR 2)) (x2 (cI CPow fun i j => i * 2 ^ j.toNat) (xC (.int 1)) (xVarR 3))))) (sRetV 1)))
theorem b_highs {P : Program} {w : World} {K : PySem.W.Frag} {mg : Str → Option Value} {base : Heap} {dn : Dn} {f : Addr}  (G : Gs K mg) (cdv : Value) (A : Around) (outer : List Env) (s : Shared) (H : Hp) (E : XK) (B : Bs) (hB : B.dn = dn) (hr : Room 0 (A.deeper (envOfC "highs" (defScope s_highs) s.heap.objs.size f cdv))) (hgd : A.guards = some []) : DSs (cxOf CX0 P w K mg base N_highs "highs" (defScope s_highs) f cdv A outer s H E).nox B (defBody s_highs) (T_highs) := by
  subst hB
  have nd := sc_highs.nd
  exact (dss_cons (ds_setLc (ps_setLc (i := 1) (own := [(("x" : Str), 4)]) rfl nd rfl rfl (sw_true rfl rfl rfl (by decide +kernel)) (dib_of (dif_range1 (pi_range1 rfl G.f_range (db_cons (dr_ix (rm1 hr) (dr_var (i := 0)) (dr_of_de de_int)) db_nil)))) (blkOk_by (by kernel_rfl)) (fun _ _ _ _ _ => (dg_name (i := 4) nd)) (fun _ _ _ _ _ => dts_nil) (fun _ _ _ _ _ => (de_op op_shl ok_I (dr_of_de de_int) (dr_var (i := 4)))))) (dss_cons (ds_for (ps_for PassesOwn.never rfl (dif_seq (de_of_dr (dr_ix (rm1 hr) (dr_var (i := 0)) (dr_of_de de_int)))) (dg_tup rfl (dgs_cons (dg_name (i := 2) nd) (dgs_cons (dg_name (i := 3) nd) dgs_nil))) (dss_one (ds_setIx (ps_asg (de_op op_or ok_I0 (dr_ix (rm1 hr) (dr_var (i := 1)) (dr_var (i := 2))) (dr_of_de (de_op op_shl ok_I (dr_of_de de_int) (dr_var (i := 3))))) (pg_sub (pe_var (i := 1) rfl (by first | exact Or.inl rfl | exact Or.inr (Or.inl rfl) | exact Or.inr (Or.inr rfl))) (dr_var (i := 2)) set_list)))))) (dss_one (ds_retv (i := 1) (ps_ret (pe_var rfl (by first | exact Or.inl rfl | exact Or.inr (Or.inl rfl) | exact Or.inr (Or.inr rfl))))))))
abbrev N_hill_of_lows : List Str := [("found" : Str), ("n" : Str), ("pairs" : Str), ("a" : Str), ("b" : Str)]
abbrev P_hill_of_lows : List Str := [("found" : Str)]
theorem sc_hill_of_lows : FnScope N_hill_of_lows P_hill_of_lows (defScope s_hill_of_lows) := ⟨rfl, rfl, rfl, by decide +kernel, rfl, by decide +kernel, by decide +kernel⟩
def T_hill_of_lows : XS := (sSeq (sSet 1 (xCB cLen (xCons (xVarR 0) xNil))) (sSeq (sSet 2 (xLC2 (xRange1 (xCons (xVarR 1) xNil)) (gNm 3) uYes (xRange1 (xCons (xVarR 1) xNil)) (gNm 4) (tAndX (tBl (x2 cNe (xVarR 3) (xVarR 4))) (tBl (x2 cEq (x2 (cI0 Builtin.bitAnd) (x2 (cI (fun _ j => 0 ≤ j) fun i j => i / 2 ^ j.toNat) (xIx (xVarR 0) (xVarR 4)) (xVarR 3)) (xC (.int 1))) (xC (.int 1))))) (xTup (xCons (xVar 3) (xCons (xVar 4) xNil))) [3, 4] [4])) (sRet (xTup (xCons (xVar 1) (xCons (xCB cTup (xCons (xVarR 2) xNil)) xNil))))))
theorem b_hill_of_lows {P : Program} {w : World} {K : PySem.W.Frag} {mg : Str → Option Value} {base : Heap} {dn : Dn} {f : Addr}  (G : Gs K mg) (cdv : Value) (A : Around) (outer : List Env) (s : Shared) (H : Hp) (E : XK) (B : Bs) (hB : B.dn = dn) (hr : Room 0 (A.deeper (envOfC "hill_of_lows" (defScope s_hill_of_lows) s.heap.objs.size f cdv))) (hgd : A.guards = some []) : DSs (cxOf CX0 P w K mg base N_hill_of_lows "hill_of_lows" (defScope s_hill_of_lows) f cdv A outer s H E).nox B (defBody s_hill_of_lows) (T_hill_of_lows) := by
  subst hB
  have nd := sc_hill_of_lows.nd
  exact (dss_cons (ds_set (i := 1) nd (de_cb ok_len (pe_callB call_len (by rfl) G.f_len boot_len (pa_sz (db_cons (dr_var (i := 0)) db_nil))))) (dss_cons (ds_setLc2 (ps_setLc2 (i := 2) (own := [(("a" : Str), 3), (("b" : Str), 4)]) (vs1 := [4]) rfl nd rfl rfl (sw_true rfl rfl rfl (by decide +kernel)) (dib_of (dif_range1 (pi_range1 rfl G.f_range (db_cons (dr_var (i := 1)) db_nil)))) (blkOk_by (by kernel_rfl)) (by decide) (fun _ _ _ _ _ => (dg_name (i := 3) nd)) (fun _ _ _ _ _ => dts_nil) (fun _ _ _ _ _ => (dif_range1 (pi_range1 rfl G.f_range (db_cons (dr_var (i := 1)) db_nil)))) (fun _ _ _ _ _ => (dg_name (i := 4) nd)) (fun _ _ _ _ _ => (dts_one (dt_w (dw_and (dt_cmp (op_neD (rm64 hr)) (by rfl) ok_Ne (dr_var (i := 3)) (dr_var (i := 4))) (dw_and1 (dt_cmp (op_eqD (rm64 hr)) (by rfl) ok_Eq (dr_of_de (de_op op_and ok_I0 (dr_of_de (de_op op_shr ok_I (dr_ix (rm1 hr) (dr_var (i := 0)) (dr_var (i := 4))) (dr_var (i := 3)))) (dr_of_de de_int))) (dr_of_de de_int))))))) (fun _ _ _ _ _ => (de_tup (da_cons (de_var (i := 3)) (da_cons (de_var (i := 4)) da_nil)))))) (dss_one (ds_ret (de_tup (da_cons (de_var (i := 1)) (da_cons (de_cb ok_tup (pe_callTy call_tuple_of (by rfl) G.f_tuple boot_tuple (pa_sz (db_cons (dr_var (i := 2)) db_nil)))) da_nil)))))))
abbrev N_closing_of : List Str := [("book" : Str), ("found" : Str), ("middle" : Str), ("b" : Str)]
abbrev P_closing_of : List Str := [("book" : Str)]
theorem sc_closing_of : FnScope N_closing_of P_closing_of (defScope s_closing_of) := ⟨rfl, rfl, rfl, by decide +kernel, rfl, by decide +kernel, by decide +kernel⟩
def T_closing_of (S_lows : FS) (S_hill_of_lows : FS) : XS := (sSeq (sSet 1 (xCall S_lows (xCons (xVar 0) xNil))) (sSeq (sFor (xRange1 (xCons (xIx (xVarR 0) (xC (.int 0))) xNil)) (gNm 2) (sFor (xRange1 (xCons (xIx (xVarR 0) (xC (.int 0))) xNil)) (gNm 3) (sIf (tBl (x2 cEq (x2 (cI0 Builtin.bitAnd) (x2 (cI (fun _ j => 0 ≤ j) fun i j => i / 2 ^ j.toNat) (xIx (xVarR 1) (xVarR 3)) (xVarR 2)) (xC (.int 1))) (xC (.int 1)))) (sSetIx 1 (xVarR 3) (x2 (cI0 Builtin.bitOr) (xIx (xVarR 1) (xVarR 3)) (xIx (xVarR 1) (xVarR 2)))) sNext))) (sFz [1] (sRet (xCall S_hill_of_lows (xCons (xVar 1) xNil))))))
theorem b_closing_of {P : Program} {w : World} {K : PySem.W.Frag} {mg : Str → Option Value} {base : Heap} {dn : Dn} {f : Addr}{ S_lows S_hill_of_lows : FS}  (G : Gs K mg) (c_lows : Cal P w K mg base dn 1 "lows" s_lows P_lows S_lows) (c_hill_of_lows : Cal P w K mg base dn 1 "hill_of_lows" s_hill_of_lows P_hill_of_lows S_hill_of_lows) (cdv : Value) (A : Around) (outer : List Env) (s : Shared) (H : Hp) (E : XK) (B : Bs) (hB : B.dn = dn) (hr : Room 1 (A.deeper (envOfC "closing_of" (defScope s_closing_of) s.heap.objs.size f cdv))) (hgd : A.guards = some []) : DSs (cxOf CX0 P w K mg base N_closing_of "closing_of" (defScope s_closing_of) f cdv A outer s H E).nox B (defBody s_closing_of) (T_closing_of S_lows S_hill_of_lows) := by
  subst hB
  have nd := sc_closing_of.nd
  exact (dss_cons (ds_set (i := 1) nd (c_lows.de hr hgd (by decide) rfl (da_cons (de_var (i := 0)) da_nil))) (dss_cons (ds_for (ps_for PassesOwn.never rfl (dif_range1 (pi_range1 rfl G.f_range (db_cons (dr_ix (rm1 hr) (dr_var (i := 0)) (dr_of_de de_int)) db_nil))) (dg_name (i := 2) nd) (dss_one (ds_for (ps_for PassesOwn.never rfl (dif_range1 (pi_range1 rfl G.f_range (db_cons (dr_ix (rm1 hr) (dr_var (i := 0)) (dr_of_de de_int)) db_nil))) (dg_name (i := 3) nd) (dss_one (ds_if (dt_cmp (op_eqD (rm64 hr)) (by rfl) ok_Eq (dr_of_de (de_op op_and ok_I0 (dr_of_de (de_op op_shr ok_I (dr_ix (rm1 hr) (dr_var (i := 1)) (dr_var (i := 3))) (dr_var (i := 2)))) (dr_of_de de_int))) (dr_of_de de_int)) (dss_one (ds_setIx (ps_asg (de_op op_or ok_I0 (dr_ix (rm1 hr) (dr_var (i := 1)) (dr_var (i := 3))) (dr_ix (rm1 hr) (dr_var (i := 1)) (dr_var (i := 2)))) (pg_sub (pe_var (i := 1) rfl (by first | exact Or.inl rfl | exact Or.inr (Or.inl rfl) | exact Or.inr (Or.inr rfl))) (dr_var (i := 3)) set_list)))) dss_nil))))))) (dss_one (ds_fz [1] (ds_ret (c_hill_of_lows.de hr hgd (by decide) rfl (da_cons (de_var (i := 1)) da_nil)))))))
abbrev N_mask_of : List Str := [("lot" : Str), ("found" : Str), ("x" : Str)]
abbrev P_mask_of : List Str := [("lot" : Str)]
theorem sc_mask_of : FnScope N_mask_of P_mask_of (defScope s_mask_of) := ⟨rfl, rfl, rfl, by decide +kernel, rfl, by decide +kernel, by decide +kernel⟩
def T_mask_of : XS := (sSeq (sSet 1 (xC (.int 0))) (sSeq (sFz [0] (sFor (xSeq (xVar 0)) (gNm 2) (sSet 1 (x2 (cI0 Builtin.bitOr) (xVarR 1) (x2 (cI CPow fun i j => i * 2 ^ j.toNat) (xC (.int 1)) (xVarR 2)))))) (sRetV 1)))
theorem b_mask_of {P : Program} {w : World} {K : PySem.W.Frag} {mg : Str → Option Value} {base : Heap} {dn : Dn} {f : Addr}  (G : Gs K mg) (cdv : Value) (A : Around) (outer : List Env) (s : Shared) (H : Hp) (E : XK) (B : Bs) (hB : B.dn = dn) (hr : Room 0 (A.deeper (envOfC "mask_of" (defScope s_mask_of) s.heap.objs.size f cdv))) (hgd : A.guards = some []) : DSs (cxOf CX0 P w K mg base N_mask_of "mask_of" (defScope s_mask_of) f cdv A outer s H E).nox B (defBody s_mask_of) (T_mask_of) := by
  subst hB
  have nd := sc_mask_of.nd
  exact (dss_cons (ds_set (i := 1) nd de_int) (dss_cons (ds_fz [0] (ds_for (ps_for PassesOwn.never rfl (dif_seq (de_var (i := 0))) (dg_name (i := 2) nd) (dss_one (ds_set (i := 1) nd (de_op op_or ok_I0 (dr_var (i := 1)) (dr_of_de (de_op op_shl ok_I (dr_of_de de_int) (dr_var (i := 2)))))))))) (dss_one (ds_retv (i := 1) (ps_ret (pe_var rfl (by first | exact Or.inl rfl | exact Or.inr (Or.inl rfl) | exact Or.inr (Or.inr rfl))))))))
abbrev N_lot_of : List Str := [("mask" : Str), ("x" : Str)]
abbrev P_lot_of : List Str := [("mask" : Str)]
theorem sc_lot_of : FnScope N_lot_of P_lot_of (defScope s_lot_of) := ⟨rfl, rfl, rfl, by decide +kernel, rfl, by decide +kernel, by decide +kernel⟩
def T_lot_of : XS := (sRet (xCB cTup (xCons (xLC (xRange1 (xCons (x1 cBitLen (xVarR 0)) xNil)) (gNm 1) (tBl (x2 cEq (x2 (cI0 Builtin.bitAnd) (x2 (cI (fun _ j => 0 ≤ j) fun i j => i / 2 ^ j.toNat) (xVarR 0) (xVarR 1)) (xC (.int 1))) (xC (.int 1)))) (xVar 1) [1]) xNil)))
theorem b_lot_of {P : Program} {w : World} {K : PySem.W.Frag} {mg : Str → Option Value} {base : Heap} {dn : Dn} {f : Addr}  (G : Gs K mg) (cdv : Value) (A : Around) (outer : List Env) (s : Shared) (H : Hp) (E : XK) (B : Bs) (hB : B.dn = dn) (hr : Room 0 (A.deeper (envOfC "lot_of" (defScope s_lot_of) s.heap.objs.size f cdv))) (hgd : A.guards = some []) : DSs (cxOf CX0 P w K mg base N_lot_of "lot_of" (defScope s_lot_of) f cdv A outer s H E).nox B (defBody s_lot_of) (T_lot_of) := by
  subst hB
  have nd := sc_lot_of.nd
  exact (dss_one (ds_ret (de_cb ok_tup (pe_callTy call_tuple_of (by rfl) G.f_tuple boot_tuple (pa_sz (db_cons (dr_of_de (de_lc (pe_lc (own := [(("x" : Str), 1)]) rfl nd (dib_of (dif_range1 (pi_range1 rfl G.f_range (db_cons (dr_of_de (de_bitlen (pe_bits (dr_var (i := 0))))) db_nil)))) (blkOk_by (by kernel_rfl)) (fun _ _ _ _ _ => (dg_name (i := 1) nd)) (fun _ _ _ _ _ => (dts_one (dt_cmp (op_eqD (rm64 hr)) (by rfl) ok_Eq (dr_of_de (de_op op_and ok_I0 (dr_of_de (de_op op_shr ok_I (dr_var (i := 0)) (dr_var (i := 1)))) (dr_of_de de_int))) (dr_of_de de_int)))) (fun _ _ _ _ _ => (de_var (i := 1)))))) db_nil))))))
abbrev N_is_lot_value : List Str := [("hill" : Str), ("thing" : Str), ("x" : Str), ("one" : Str), ("other" : Str)]
abbrev P_is_lot_value : List Str := [("hill" : Str), ("thing" : Str)]
theorem sc_is_lot_value : FnScope N_is_lot_value P_is_lot_value (defScope s_is_lot_value) := ⟨rfl, rfl, rfl, by decide +kernel, rfl, by decide +kernel, by decide +kernel⟩
def T_is_lot_value (S_is_between : FS) : XS := (sSeq (sIf (tOrX (tNotX (tBl (xIsi (xVarR 1) "tuple"))) (tNotX (tBl (xCB cAll (xCons (xLC (xSeq (xVarR 1)) (gNm 2) uYes (xCall S_is_between (xCons (xVar 2) (xCons (xC (.int 0)) (xCons (x2 (cI0 fun i j => i - j) (xIx (xVarR 0) (xC (.int 0))) (xC (.int 1))) xNil)))) [2]) xNil))))) (sRet (xC (.bool false))) sNext) (sRet (xCB cAll (xCons (xLC (xZip (xCons (xVarR 1) (xCons (xSl (xVarR 1) (xPart (xC (.int 1))) xNoPart) xNil))) (gTp 2 (gC (gNm 3) (gC (gNm 4) gN0))) uYes (x2 cLtD (xVarR 3) (xVarR 4)) [3, 4]) xNil))))
theorem b_is_lot_value {P : Program} {w : World} {K : PySem.W.Frag} {mg : Str → Option Value} {base : Heap} {dn : Dn} {f : Addr}{ S_is_between : FS}  (G : Gs K mg) (c_is_between : Cal P w K mg base dn 2 "is_between" s_is_between P_is_between S_is_between) (cdv : Value) (A : Around) (outer : List Env) (s : Shared) (H : Hp) (E : XK) (B : Bs) (hB : B.dn = dn) (hr : Room 2 (A.deeper (envOfC "is_lot_value" (defScope s_is_lot_value) s.heap.objs.size f cdv))) (hgd : A.guards = some []) : DSs (cxOf CX0 P w K mg base N_is_lot_value "is_lot_value" (defScope s_is_lot_value) f cdv A outer s H E).nox B (defBody s_is_lot_value) (T_is_lot_value S_is_between) := by
  subst hB
  have nd := sc_is_lot_value.nd
  exact (dss_cons (ds_if (dt_w (dw_or (dt_not (dt_val (de_isi (ty := "tuple") rfl G.f_isinstance rfl G.f_tuple boot_tuple (by decide) (by decide) (dr_var (i := 1))))) (dw_or1 (dt_not (dt_val (de_cb ok_all (pe_callB (cr_all rfl) (by rfl) G.f_all boot_all (pa_sz (db_cons (dr_of_de (de_lc (pe_lc (own := [(("x" : Str), 2)]) rfl nd (dib_seq (dr_var (i := 1))) (blkOk_by (by kernel_rfl)) (fun _ _ _ _ _ => (dg_name (i := 2) nd)) (fun _ _ _ _ _ => dts_nil) (fun _ _ _ _ _ => (c_is_between.de hr hgd (by decide) rfl (da_cons (de_var (i := 2)) (da_cons de_int (da_cons (de_op op_sub ok_I0 (dr_ix (rm1 hr) (dr_var (i := 0)) (dr_of_de de_int)) (dr_of_de de_int)) da_nil)))))))) db_nil))))))))) (dss_one (ds_ret de_bl)) dss_nil) (dss_one (ds_ret (de_cb ok_all (pe_callB (cr_all rfl) (by rfl) G.f_all boot_all (pa_sz (db_cons (dr_of_de (de_lc (pe_lc (own := [(("one" : Str), 3), (("other" : Str), 4)]) rfl nd (dib_zip (pi_zipB rfl G.f_zip (db_cons (dr_var (i := 1)) (db_cons (dr_of_de (de_sl (dr_var (i := 1)) (do_some (dr_of_de de_int)) do_none)) db_nil)))) (blkOk_by (by kernel_rfl)) (fun _ _ _ _ _ => (dg_tup rfl (dgs_cons (dg_name (i := 3) nd) (dgs_cons (dg_name (i := 4) nd) dgs_nil)))) (fun _ _ _ _ _ => dts_nil) (fun _ _ _ _ _ => (de_cmp (op_ltD (rm65 hr)) (by rfl) ok_LtD (dr_var (i := 3)) (dr_var (i := 4))))))) db_nil)))))))
abbrev N_closed_mask : List Str := [("masks" : Str), ("mask" : Str), ("found" : Str), ("x" : Str)]
abbrev P_closed_mask : List Str := [("masks" : Str), ("mask" : Str)]
theorem sc_closed_mask : FnScope N_closed_mask P_closed_mask (defScope s_closed_mask) := ⟨rfl, rfl, rfl, by decide +kernel, rfl, by decide +kernel, by decide +kernel⟩
def T_closed_mask (S_lot_of : FS) : XS := (sSeq (sSet 2 (xC (.int 0))) (sSeq (sFor (xSeq (xCall S_lot_of (xCons (xVar 1) xNil))) (gNm 3) (sSet 2 (x2 (cI0 Builtin.bitOr) (xVarR 2) (xIx (xVarR 0) (xVarR 3))))) (sRetV 2)))
theorem b_closed_mask {P : Program} {w : World} {K : PySem.W.Frag} {mg : Str → Option Value} {base : Heap} {dn : Dn} {f : Addr}{ S_lot_of : FS}  (G : Gs K mg) (c_lot_of : Cal P w K mg base dn 1 "lot_of" s_lot_of P_lot_of S_lot_of) (cdv : Value) (A : Around) (outer : List Env) (s : Shared) (H : Hp) (E : XK) (B : Bs) (hB : B.dn = dn) (hr : Room 1 (A.deeper (envOfC "closed_mask" (defScope s_closed_mask) s.heap.objs.size f cdv))) (hgd : A.guards = some []) : DSs (cxOf CX0 P w K mg base N_closed_mask "closed_mask" (defScope s_closed_mask) f cdv A outer s H E).nox B (defBody s_closed_mask) (T_closed_mask S_lot_of) := by
  subst hB
  have nd := sc_closed_mask.nd
  exact (dss_cons (ds_set (i := 2) nd de_int) (dss_cons (ds_for (ps_for PassesOwn.never rfl (dif_seq (c_lot_of.de hr hgd (by decide) rfl (da_cons (de_var (i := 1)) da_nil))) (dg_name (i := 3) nd) (dss_one (ds_set (i := 2) nd (de_op op_or ok_I0 (dr_var (i := 2)) (dr_ix (rm1 hr) (dr_var (i := 0)) (dr_var (i := 3)))))))) (dss_one (ds_retv (i := 2) (ps_ret (pe_var rfl (by first | exact Or.inl rfl | exact Or.inr (Or.inl rfl) | exact Or.inr (Or.inr rfl))))))))
abbrev N_lower_mask : List Str := [("hill" : Str), ("mask" : Str)]
abbrev P_lower_mask : List Str := [("hill" : Str), ("mask" : Str)]
theorem sc_lower_mask : FnScope N_lower_mask P_lower_mask (defScope s_lower_mask) := ⟨rfl, rfl, rfl, by decide +kernel, rfl, by decide +kernel, by decide +kernel⟩
def T_lower_mask (S_closed_mask : FS) (S_lows : FS) : XS := (sRet (xCall S_closed_mask (xCons (xCall S_lows (xCons (xVar 0) xNil)) (xCons (xVar 1) xNil))))
theorem b_lower_mask {P : Program} {w : World} {K : PySem.W.Frag} {mg : Str → Option Value} {base : Heap} {dn : Dn} {f : Addr}{ S_closed_mask S_lows : FS}  (G : Gs K mg) (c_closed_mask : Cal P w K mg base dn 2 "closed_mask" s_closed_mask P_closed_mask S_closed_mask) (c_lows : Cal P w K mg base dn 1 "lows" s_lows P_lows S_lows) (cdv : Value) (A : Around) (outer : List Env) (s : Shared) (H : Hp) (E : XK) (B : Bs) (hB : B.dn = dn) (hr : Room 2 (A.deeper (envOfC "lower_mask" (defScope s_lower_mask) s.heap.objs.size f cdv))) (hgd : A.guards = some []) : DSs (cxOf CX0 P w K mg base N_lower_mask "lower_mask" (defScope s_lower_mask) f cdv A outer s H E).nox B (defBody s_lower_mask) (T_lower_mask S_closed_mask S_lows) := by
  subst hB
  have nd := sc_lower_mask.nd
  exact (dss_one (ds_ret (c_closed_mask.de hr hgd (by decide) rfl (da_cons (c_lows.de hr hgd (by decide) rfl (da_cons (de_var (i := 0)) da_nil)) (da_cons (de_var (i := 1)) da_nil)))))
abbrev N_is_lower_value : List Str := [("hill" : Str), ("thing" : Str)]
abbrev P_is_lower_value : List Str := [("hill" : Str), ("thing" : Str)]
theorem sc_is_lower_value : FnScope N_is_lower_value P_is_lower_value (defScope s_is_lower_value) := ⟨rfl, rfl, rfl, by decide +kernel, rfl, by decide +kernel, by decide +kernel⟩
def T_is_lower_value (S_is_lot_value : FS) (S_lower_mask : FS) (S_mask_of : FS) : XS := (sRet (xAnd (xCall S_is_lot_value (xCons (xVar 0) (xCons (xVar 1) xNil))) (x2 cEq (xCall S_lower_mask (xCons (xVar 0) (xCons (xCall S_mask_of (xCons (xVar 1) xNil)) xNil))) (xCall S_mask_of (xCons (xVar 1) xNil)))))
theorem b_is_lower_value {P : Program} {w : World} {K : PySem.W.Frag} {mg : Str → Option Value} {base : Heap} {dn : Dn} {f : Addr}{ S_is_lot_value S_lower_mask S_mask_of : FS}  (G : Gs K mg) (c_is_lot_value : Cal P w K mg base dn 3 "is_lot_value" s_is_lot_value P_is_lot_value S_is_lot_value) (c_lower_mask : Cal P w K mg base dn 3 "lower_mask" s_lower_mask P_lower_mask S_lower_mask) (c_mask_of : Cal P w K mg base dn 1 "mask_of" s_mask_of P_mask_of S_mask_of) (cdv : Value) (A : Around) (outer : List Env) (s : Shared) (H : Hp) (E : XK) (B : Bs) (hB : B.dn = dn) (hr : Room 3 (A.deeper (envOfC "is_lower_value" (defScope s_is_lower_value) s.heap.objs.size f cdv))) (hgd : A.guards = some []) : DSs (cxOf CX0 P w K mg base N_is_lower_value "is_lower_value" (defScope s_is_lower_value) f cdv A outer s H E).nox B (defBody s_is_lower_value) (T_is_lower_value S_is_lot_value S_lower_mask S_mask_of) := by
  subst hB
  have nd := sc_is_lower_value.nd
  exact (dss_one (ds_ret (de_and (c_is_lot_value.de hr hgd (by decide) rfl (da_cons (de_var (i := 0)) (da_cons (de_var (i := 1)) da_nil))) (de_one (de_cmp (op_eqD (rm64 hr)) (by rfl) ok_Eq (dr_of_de (c_lower_mask.de hr hgd (by decide) rfl (da_cons (de_var (i := 0)) (da_cons (c_mask_of.de hr hgd (by decide) rfl (da_cons (de_var (i := 1)) da_nil)) da_nil)))) (dr_of_de (c_mask_of.de hr hgd (by decide) rfl (da_cons (de_var (i := 1)) da_nil))))))))
abbrev N_ends_of : List Str := [("beyond" : Str), ("behind" : Str), ("mask" : Str), ("found" : Str), ("x" : Str), ("pond" : Str)]
abbrev P_ends_of : List Str := [("beyond" : Str), ("behind" : Str), ("mask" : Str)]
theorem sc_ends_of : FnScope N_ends_of P_ends_of (defScope s_ends_of) := ⟨rfl, rfl, rfl, by decide +kernel, rfl, by decide +kernel, by decide +kernel⟩
def T_ends_of (S_lot_of : FS) : XS := (sSeq (sSet 3 (xLst xNil)) (sSeq (sFor (xSeq (xCall S_lot_of (xCons (xVar 2) xNil))) (gNm 4) (sSeq (sSet 5 (x2 (cI0 Builtin.bitAnd) (x2 (cI0 Builtin.bitAnd) (xIx (xVarR 0) (xVarR 4)) (xIx (xVarR 1) (xVarR 4))) (xVarR 2))) (sIf (tAndX (tBl (x2 cEq (x2 (cI0 Builtin.bitAnd) (xIx (xVarR 0) (xVarR 4)) (xVarR 2)) (xVarR 5))) (tBl (x2 cEq (xIx (xCall S_lot_of (xCons (xVar 5) xNil)) (xC (.int 0))) (xVarR 4)))) (sApp 3 (xVar 4)) sNext))) (sRetV 3)))
theorem b_ends_of {P : Program} {w : World} {K : PySem.W.Frag} {mg : Str → Option Value} {base : Heap} {dn : Dn} {f : Addr}{ S_lot_of : FS}  (G : Gs K mg) (c_lot_of : Cal P w K mg base dn 1 "lot_of" s_lot_of P_lot_of S_lot_of) (cdv : Value) (A : Around) (outer : List Env) (s : Shared) (H : Hp) (E : XK) (B : Bs) (hB : B.dn = dn) (hr : Room 1 (A.deeper (envOfC "ends_of" (defScope s_ends_of) s.heap.objs.size f cdv))) (hgd : A.guards = some []) : DSs (cxOf CX0 P w K mg base N_ends_of "ends_of" (defScope s_ends_of) f cdv A outer s H E).nox B (defBody s_ends_of) (T_ends_of S_lot_of) := by
  subst hB
  have nd := sc_ends_of.nd
  exact (dss_cons (ds_set (i := 3) nd (de_lst da_nil)) (dss_cons (ds_for (ps_for PassesOwn.never rfl (dif_seq (c_lot_of.de hr hgd (by decide) rfl (da_cons (de_var (i := 2)) da_nil))) (dg_name (i := 4) nd) (dss_cons (ds_set (i := 5) nd (de_op op_and ok_I0 (dr_of_de (de_op op_and ok_I0 (dr_ix (rm1 hr) (dr_var (i := 0)) (dr_var (i := 4))) (dr_ix (rm1 hr) (dr_var (i := 1)) (dr_var (i := 4))))) (dr_var (i := 2)))) (dss_one (ds_if (dt_w (dw_and (dt_cmp (op_eqD (rm64 hr)) (by rfl) ok_Eq (dr_of_de (de_op op_and ok_I0 (dr_ix (rm1 hr) (dr_var (i := 0)) (dr_var (i := 4))) (dr_var (i := 2)))) (dr_var (i := 5))) (dw_and1 (dt_cmp (op_eqD (rm64 hr)) (by rfl) ok_Eq (dr_ix (rm1 hr) (dr_of_de (c_lot_of.de hr hgd (by decide) rfl (da_cons (de_var (i := 5)) da_nil))) (dr_of_de de_int)) (dr_var (i := 4)))))) (dss_one (ds_app (ps_expr (pe_bm PySem.F.plainAttrs_list PySem.F.slot_list_append PySem.F.type_list_append mt_append (pe_var (i := 3) rfl (by first | exact Or.inl rfl | exact Or.inr (Or.inl rfl) | exact Or.inr (Or.inr rfl))) (pa_cons (de_var (i := 4)) pa_nil))))) dss_nil))))) (dss_one (ds_retv (i := 3) (ps_ret (pe_var rfl (by first | exact Or.inl rfl | exact Or.inr (Or.inl rfl) | exact Or.inr (Or.inr rfl))))))))
abbrev N_highest_of : List Str := [("hill" : Str), ("mask" : Str)]
abbrev P_highest_of : List Str := [("hill" : Str), ("mask" : Str)]
theorem sc_highest_of : FnScope N_highest_of P_highest_of (defScope s_highest_of) := ⟨rfl, rfl, rfl, by decide +kernel, rfl, by decide +kernel, by decide +kernel⟩
def T_highest_of (S_ends_of : FS) (S_highs : FS) (S_lows : FS) : XS := (sRet (xCall S_ends_of (xCons (xCall S_highs (xCons (xVar 0) xNil)) (xCons (xCall S_lows (xCons (xVar 0) xNil)) (xCons (xVar 1) xNil)))))
theorem b_highest_of {P : Program} {w : World} {K : PySem.W.Frag} {mg : Str → Option Value} {base : Heap} {dn : Dn} {f : Addr}{ S_ends_of S_highs S_lows : FS}  (G : Gs K mg) (c_ends_of : Cal P w K mg base dn 2 "ends_of" s_ends_of P_ends_of S_ends_of) (c_highs : Cal P w K mg base dn 1 "highs" s_highs P_highs S_highs) (c_lows : Cal P w K mg base dn 1 "lows" s_lows P_lows S_lows) (cdv : Value) (A : Around) (outer : List Env) (s : Shared) (H : Hp) (E : XK) (B : Bs) (hB : B.dn = dn) (hr : Room 2 (A.deeper (envOfC "highest_of" (defScope s_highest_of) s.heap.objs.size f cdv))) (hgd : A.guards = some []) : DSs (cxOf CX0 P w K mg base N_highest_of "highest_of" (defScope s_highest_of) f cdv A outer s H E).nox B (defBody s_highest_of) (T_highest_of S_ends_of S_highs S_lows) := by
  subst hB
  have nd := sc_highest_of.nd
  exact (dss_one (ds_ret (c_ends_of.de hr hgd (by decide) rfl (da_cons (c_highs.de hr hgd (by decide) rfl (da_cons (de_var (i := 0)) da_nil)) (da_cons (c_lows.de hr hgd (by decide) rfl (da_cons (de_var (i := 0)) da_nil)) (da_cons (de_var (i := 1)) da_nil))))))
abbrev N_lowest_of : List Str := [("hill" : Str), ("mask" : Str)]
abbrev P_lowest_of : List Str := [("hill" : Str), ("mask" : Str)]
theorem sc_lowest_of : FnScope N_lowest_of P_lowest_of (defScope s_lowest_of) := ⟨rfl, rfl, rfl, by decide +kernel, rfl, by decide +kernel, by decide +kernel⟩
def T_lowest_of (S_ends_of : FS) (S_lows : FS) (S_highs : FS) : XS := (sRet (xCall S_ends_of (xCons (xCall S_lows (xCons (xVar 0) xNil)) (xCons (xCall S_highs (xCons (xVar 0) xNil)) (xCons (xVar 1) xNil)))))
theorem b_lowest_of {P : Program} {w : World} {K : PySem.W.Frag} {mg : Str → Option Value} {base : Heap} {dn : Dn} {f : Addr}{ S_ends_of S_lows S_highs : FS}  (G : Gs K mg) (c_ends_of : Cal P w K mg base dn 2 "ends_of" s_ends_of P_ends_of S_ends_of) (c_lows : Cal P w K mg base dn 1 "lows" s_lows P_lows S_lows) (c_highs : Cal P w K mg base dn 1 "highs" s_highs P_highs S_highs) (cdv : Value) (A : Around) (outer : List Env) (s : Shared) (H : Hp) (E : XK) (B : Bs) (hB : B.dn = dn) (hr : Room 2 (A.deeper (envOfC "lowest_of" (defScope s_lowest_of) s.heap.objs.size f cdv))) (hgd : A.guards = some []) : DSs (cxOf CX0 P w K mg base N_lowest_of "lowest_of" (defScope s_lowest_of) f cdv A outer s H E).nox B (defBody s_lowest_of) (T_lowest_of S_ends_of S_lows S_highs) := by
  subst hB
  have nd := sc_lowest_of.nd
  exact (dss_one (ds_ret (c_ends_of.de hr hgd (by decide) rfl (da_cons (c_lows.de hr hgd (by decide) rfl (da_cons (de_var (i := 0)) da_nil)) (da_cons (c_highs.de hr hgd (by decide) rfl (da_cons (de_var (i := 0)) da_nil)) (da_cons (de_var (i := 1)) da_nil))))))
abbrev N_is_deed_value : List Str := [("n" : Str), ("thing" : Str)]
abbrev P_is_deed_value : List Str := [("n" : Str), ("thing" : Str)]
theorem sc_is_deed_value : FnScope N_is_deed_value P_is_deed_value (defScope s_is_deed_value) := ⟨rfl, rfl, rfl, by decide +kernel, rfl, by decide +kernel, by decide +kernel⟩
def T_is_deed_value (S_is_between : FS) : XS := (sSeq (sIf (tOrX (tNotX (tBl (xIsi (xVarR 1) "tuple"))) (tOrX (tBl (x2 cNe (xCB cLen (xCons (xVarR 1) xNil)) (xC (.int 2)))) (tNotX (tBl (xIsi (xIx (xVarR 1) (xC (.int 0))) "str"))))) (sRet (xC (.bool false))) sNext) (sRet (xAnd (x2 (cIn false) (xIx (xVarR 1) (xC (.int 0))) (xC (.tuple (List.map .str [("pour" : Str), ("open" : Str)])))) (xCall S_is_between (xCons (xFlat (xIx (xVarR 1) (xC (.int 1)))) (xCons (xC (.int 0)) (xCons (x2 (cI0 fun i j => i - j) (xVarR 0) (xC (.int 1))) xNil)))))))
theorem b_is_deed_value {P : Program} {w : World} {K : PySem.W.Frag} {mg : Str → Option Value} {base : Heap} {dn : Dn} {f : Addr}{ S_is_between : FS}  (G : Gs K mg) (c_is_between : Cal P w K mg base dn 2 "is_between" s_is_between P_is_between S_is_between) (cdv : Value) (A : Around) (outer : List Env) (s : Shared) (H : Hp) (E : XK) (B : Bs) (hB : B.dn = dn) (hr : Room 2 (A.deeper (envOfC "is_deed_value" (defScope s_is_deed_value) s.heap.objs.size f cdv))) (hgd : A.guards = some []) : DSs (cxOf CX0 P w K mg base N_is_deed_value "is_deed_value" (defScope s_is_deed_value) f cdv A outer s H E).nox B (defBody s_is_deed_value) (T_is_deed_value S_is_between) := by
  subst hB
  have nd := sc_is_deed_value.nd
  exact (dss_cons (ds_if (dt_w (dw_or (dt_not (dt_val (de_isi (ty := "tuple") rfl G.f_isinstance rfl G.f_tuple boot_tuple (by decide) (by decide) (dr_var (i := 1))))) (dw_or (dt_cmp (op_neD (rm64 hr)) (by rfl) ok_Ne (dr_of_de (de_cb ok_len (pe_callB call_len (by rfl) G.f_len boot_len (pa_sz (db_cons (dr_var (i := 1)) db_nil))))) (dr_of_de de_int)) (dw_or1 (dt_not (dt_val (de_isi (ty := "str") rfl G.f_isinstance rfl G.f_str boot_str (by decide) (by decide) (dr_ix (rm1 hr) (dr_var (i := 1)) (dr_of_de de_int))))))))) (dss_one (ds_ret de_bl)) dss_nil) (dss_one (ds_ret (de_and (de_cmp (op_inAll (rm65 hr)) (by rfl) ok_In (dr_ix (rm1 hr) (dr_var (i := 1)) (dr_of_de de_int)) (dr_of_de (de_globT rfl G.c_WORDS))) (de_one (c_is_between.de hr hgd (by decide) rfl (da_cons (de_of_dr (dr_ix (rm1 hr) (dr_var (i := 1)) (dr_of_de de_int))) (da_cons de_int (da_cons (de_op op_sub ok_I0 (dr_var (i := 0)) (dr_of_de de_int)) da_nil)))))))))
abbrev N_is_script_value : List Str := [("n" : Str), ("thing" : Str), ("deed" : Str)]
abbrev P_is_script_value : List Str := [("n" : Str), ("thing" : Str)]
theorem sc_is_script_value : FnScope N_is_script_value P_is_script_value (defScope s_is_script_value) := ⟨rfl, rfl, rfl, by decide +kernel, rfl, by decide +kernel, by decide +kernel⟩
def T_is_script_value (S_is_deed_value : FS) : XS := (sRet (xAnd (xIsi (xVarR 1) "tuple") (xCB cAll (xCons (xLC (xSeq (xVarR 1)) (gNm 2) uYes (xCall S_is_deed_value (xCons (xVar 0) (xCons (xVar 2) xNil))) [2]) xNil))))
theorem b_is_script_value {P : Program} {w : World} {K : PySem.W.Frag} {mg : Str → Option Value} {base : Heap} {dn : Dn} {f : Addr}{ S_is_deed_value : FS}  (G : Gs K mg) (c_is_deed_value : Cal P w K mg base dn 3 "is_deed_value" s_is_deed_value P_is_deed_value S_is_deed_value) (cdv : Value) (A : Around) (outer : List Env) (s : Shared) (H : Hp) (E : XK) (B : Bs) (hB : B.dn = dn) (hr : Room 3 (A.deeper (envOfC "is_script_value" (defScope s_is_script_value) s.heap.objs.size f cdv))) (hgd : A.guards = some []) : DSs (cxOf CX0 P w K mg base N_is_script_value "is_script_value" (defScope s_is_script_value) f cdv A outer s H E).nox B (defBody s_is_script_value) (T_is_script_value S_is_deed_value) := by
  subst hB
  have nd := sc_is_script_value.nd
  exact (dss_one (ds_ret (de_and (de_isi (ty := "tuple") rfl G.f_isinstance rfl G.f_tuple boot_tuple (by decide) (by decide) (dr_var (i := 1))) (de_one (de_cb ok_all (pe_callB (cr_all rfl) (by rfl) G.f_all boot_all (pa_sz (db_cons (dr_of_de (de_lc (pe_lc (own := [(("deed" : Str), 2)]) rfl nd (dib_seq (dr_var (i := 1))) (blkOk_by (by kernel_rfl)) (fun _ _ _ _ _ => (dg_name (i := 2) nd)) (fun _ _ _ _ _ => dts_nil) (fun _ _ _ _ _ => (c_is_deed_value.de hr hgd (by decide) rfl (da_cons (de_var (i := 0)) (da_cons (de_var (i := 2)) da_nil))))))) db_nil))))))))
abbrev N_need_script : List Str := [("n" : Str), ("script" : Str)]
abbrev P_need_script : List Str := [("n" : Str), ("script" : Str)]
theorem sc_need_script : FnScope N_need_script P_need_script (defScope s_need_script) := ⟨rfl, rfl, rfl, by decide +kernel, rfl, by decide +kernel, by decide +kernel⟩
def T_need_script (S_is_script_value : FS) : XS := (sIf (tNotX (tBl (xCall S_is_script_value (xCons (xVar 0) (xCons (xVar 1) xNil))))) sNever sNext)
theorem b_need_script {P : Program} {w : World} {K : PySem.W.Frag} {mg : Str → Option Value} {base : Heap} {dn : Dn} {f : Addr}{ S_is_script_value : FS}  (G : Gs K mg) (c_is_script_value : Cal P w K mg base dn 4 "is_script_value" s_is_script_value P_is_script_value S_is_script_value) (cdv : Value) (A : Around) (outer : List Env) (s : Shared) (H : Hp) (E : XK) (B : Bs) (hB : B.dn = dn) (hr : Room 4 (A.deeper (envOfC "need_script" (defScope s_need_script) s.heap.objs.size f cdv))) (hgd : A.guards = some []) : DSs (cxOf CX0 P w K mg base N_need_script "need_script" (defScope s_need_script) f cdv A outer s H E).nox B (defBody s_need_script) (T_need_script S_is_script_value) := by
  subst hB
  have nd := sc_need_script.nd
  exact (dss_one (ds_if (dt_not (dt_val (c_is_script_value.de hr hgd (by decide) rfl (da_cons (de_var (i := 0)) (da_cons (de_var (i := 1)) da_nil))))) (dss_one ds_never) dss_nil))
abbrev N_reaches : List Str := [("hill" : Str), ("script" : Str), ("below" : Str), ("above" : Str), ("word" : Str), ("x" : Str)]
abbrev P_reaches : List Str := [("hill" : Str), ("script" : Str)]
theorem sc_reaches : FnScope N_reaches P_reaches (defScope s_reaches) := ⟨rfl, rfl, rfl, by decide +kernel, rfl, by decide +kernel, by decide +kernel⟩
def T_reaches (S_lows : FS) (S_highs : FS) : XS := (sSeq (sPar [2, 3] (xCons (xCall S_lows (xCons (xVar 0) xNil)) (xCons (xCall S_highs (xCons (xVar 0) xNil)) xNil))) (sRet (xLC (xSeq (xVarR 1)) (gTp 2 (gC (gNm 4) (gC (gNm 5) gN0))) uYes (xIf (tBl (x2 cEq (xVarR 4) (xC (.str ("pour" : Str))))) (xFlat (xIx (xVarR 2) (xVarR 5))) (xFlat (xIx (xVarR 3) (xVarR 5)))) [4, 5])))
theorem b_reaches {P : Program} {w : World} {K : PySem.W.Frag} {mg : Str → Option Value} {base : Heap} {dn : Dn} {f : Addr}{ S_lows S_highs : FS}  (G : Gs K mg) (c_lows : Cal P w K mg base dn 1 "lows" s_lows P_lows S_lows) (c_highs : Cal P w K mg base dn 1 "highs" s_highs P_highs S_highs) (cdv : Value) (A : Around) (outer : List Env) (s : Shared) (H : Hp) (E : XK) (B : Bs) (hB : B.dn = dn) (hr : Room 1 (A.deeper (envOfC "reaches" (defScope s_reaches) s.heap.objs.size f cdv))) (hgd : A.guards = some []) : DSs (cxOf CX0 P w K mg base N_reaches "reaches" (defScope s_reaches) f cdv A outer s H E).nox B (defBody s_reaches) (T_reaches S_lows S_highs) := by
  subst hB
  have nd := sc_reaches.nd
  exact (dss_cons (ds_parN (is := [2, 3]) (n := 2) (ps_asg (pe_tup (da_cons (c_lows.de hr hgd (by decide) rfl (da_cons (de_var (i := 0)) da_nil)) (da_cons (c_highs.de hr hgd (by decide) rfl (da_cons (de_var (i := 0)) da_nil)) da_nil))) (pg_tup rfl (pgs_cons (pg_name (i := 2) nd rfl (by first | exact Or.inl rfl | exact Or.inr rfl)) (pgs_cons (pg_name (i := 3) nd rfl (by first | exact Or.inl rfl | exact Or.inr rfl)) pgs_nil))))) (dss_one (ds_ret (de_lc (pe_lc (own := [(("word" : Str), 4), (("x" : Str), 5)]) rfl nd (dib_seq (dr_var (i := 1))) (blkOk_by (by kernel_rfl)) (fun _ _ _ _ _ => (dg_tup rfl (dgs_cons (dg_name (i := 4) nd) (dgs_cons (dg_name (i := 5) nd) dgs_nil)))) (fun _ _ _ _ _ => dts_nil) (fun _ _ _ _ _ => (de_if (dt_cmp (op_eqD (rm64 hr)) (by rfl) ok_Eq (dr_var (i := 4)) (dr_of_de de_str)) (de_of_dr (dr_ix (rm1 hr) (dr_var (i := 2)) (dr_var (i := 5)))) (de_of_dr (dr_ix (rm1 hr) (dr_var (i := 3)) (dr_var (i := 5)))))))))))
abbrev N_reach_mask : List Str := [("hill" : Str), ("deed" : Str)]
abbrev P_reach_mask : List Str := [("hill" : Str), ("deed" : Str)]
theorem sc_reach_mask : FnScope N_reach_mask P_reach_mask (defScope s_reach_mask) := ⟨rfl, rfl, rfl, by decide +kernel, rfl, by decide +kernel, by decide +kernel⟩
def T_reach_mask (S_reaches : FS) : XS := (sRet (xFlat (xIx (xCall S_reaches (xCons (xVar 0) (xCons (xTup (xCons (xVar 1) xNil)) xNil))) (xC (.int 0)))))
theorem b_reach_mask {P : Program} {w : World} {K : PySem.W.Frag} {mg : Str → Option Value} {base : Heap} {dn : Dn} {f : Addr}{ S_reaches : FS}  (G : Gs K mg) (c_reaches : Cal P w K mg base dn 2 "reaches" s_reaches P_reaches S_reaches) (cdv : Value) (A : Around) (outer : List Env) (s : Shared) (H : Hp) (E : XK) (B : Bs) (hB : B.dn = dn) (hr : Room 2 (A.deeper (envOfC "reach_mask" (defScope s_reach_mask) s.heap.objs.size f cdv))) (hgd : A.guards = some []) : DSs (cxOf CX0 P w K mg base N_reach_mask "reach_mask" (defScope s_reach_mask) f cdv A outer s H E).nox B (defBody s_reach_mask) (T_reach_mask S_reaches) := by
  subst hB
  have nd := sc_reach_mask.nd
  exact (dss_one (ds_ret (de_of_dr (dr_ix (rm1 hr) (dr_of_de (c_reaches.de hr hgd (by decide) rfl (da_cons (de_var (i := 0)) (da_cons (de_tup (da_cons (de_var (i := 1)) da_nil)) da_nil)))) (dr_of_de de_int)))))
abbrev N_done : List Str := [("hill" : Str), ("mask" : Str), ("script" : Str), ("deed" : Str), ("reach" : Str)]
abbrev P_done : List Str := [("hill" : Str), ("mask" : Str), ("script" : Str)]
theorem sc_done : FnScope N_done P_done (defScope s_done) := ⟨rfl, rfl, rfl, by decide +kernel, rfl, by decide +kernel, by decide +kernel⟩
def T_done (S_reaches : FS) : XS := (sSeq (sFor (xZip (xCons (xVar 2) (xCons (xCall S_reaches (xCons (xVar 0) (xCons (xVar 2) xNil))) xNil))) (gTp 2 (gC (gNm 3) (gC (gNm 4) gN0))) (sSet 1 (xIf (tBl (x2 cEq (xIx (xVarR 3) (xC (.int 0))) (xC (.str ("pour" : Str))))) (x2 (cI0 Builtin.bitOr) (xVarR 1) (xVarR 4)) (x2 (cI0 Builtin.bitAnd) (xVarR 1) (x1 cInv (xVarR 4)))))) (sRet (xVar 1)))
theorem b_done {P : Program} {w : World} {K : PySem.W.Frag} {mg : Str → Option Value} {base : Heap} {dn : Dn} {f : Addr}{ S_reaches : FS}  (G : Gs K mg) (c_reaches : Cal P w K mg base dn 2 "reaches" s_reaches P_reaches S_reaches) (cdv : Value) (A : Around) (outer : List Env) (s : Shared) (H : Hp) (E : XK) (B : Bs) (hB : B.dn = dn) (hr : Room 2 (A.deeper (envOfC "done" (defScope s_done) s.heap.objs.size f cdv))) (hgd : A.guards = some []) : DSs (cxOf CX0 P w K mg base N_done "done" (defScope s_done) f cdv A outer s H E).nox B (defBody s_done) (T_done S_reaches) := by
  subst hB
  have nd := sc_done.nd
  exact (dss_cons (ds_for (ps_for PassesOwn.never rfl (dif_zip (pi_zipB rfl G.f_zip (da_cons (de_var (i := 2)) (da_cons (c_reaches.de hr hgd (by decide) rfl (da_cons (de_var (i := 0)) (da_cons (de_var (i := 2)) da_nil))) da_nil)))) (dg_tup rfl (dgs_cons (dg_name (i := 3) nd) (dgs_cons (dg_name (i := 4) nd) dgs_nil))) (dss_one (ds_set (i := 1) nd (de_if (dt_cmp (op_eqD (rm64 hr)) (by rfl) ok_Eq (dr_ix (rm1 hr) (dr_var (i := 3)) (dr_of_de de_int)) (dr_of_de de_str)) (de_op op_or ok_I0 (dr_var (i := 1)) (dr_var (i := 4))) (de_op op_and ok_I0 (dr_var (i := 1)) (dr_of_de (de_un un_inv ok_Inv (dr_var (i := 4)))))))))) (dss_one (ds_ret (de_var (i := 1)))))
abbrev N_couple_masks : List Str := [("hill" : Str), ("script" : Str), ("wet" : Str), ("dry" : Str), ("deed" : Str), ("reach" : Str)]
abbrev P_couple_masks : List Str := [("hill" : Str), ("script" : Str)]
theorem sc_couple_masks : FnScope N_couple_masks P_couple_masks (defScope s_couple_masks) := ⟨rfl, rfl, rfl, by decide +kernel, rfl, by decide +kernel, by decide +kernel⟩
def T_couple_masks (S_reaches : FS) : XS := (sSeq (sAsg (xTup (xCons (xC (.int 0)) (xCons (xC (.int 0)) xNil))) (gTp 2 (gC (gNm 2) (gC (gNm 3) gN0)))) (sSeq (sFor (xZip (xCons (xVar 1) (xCons (xCall S_reaches (xCons (xVar 0) (xCons (xVar 1) xNil))) xNil))) (gTp 2 (gC (gNm 4) (gC (gNm 5) gN0))) (sIf (tBl (x2 cEq (xIx (xVarR 4) (xC (.int 0))) (xC (.str ("pour" : Str))))) (sPar [2, 3] (xCons (x2 (cI0 Builtin.bitOr) (xVarR 2) (xVarR 5)) (xCons (x2 (cI0 Builtin.bitAnd) (xVarR 3) (x1 cInv (xVarR 5))) xNil))) (sPar [2, 3] (xCons (x2 (cI0 Builtin.bitAnd) (xVarR 2) (x1 cInv (xVarR 5))) (xCons (x2 (cI0 Builtin.bitOr) (xVarR 3) (xVarR 5)) xNil))))) (sRet (xTup (xCons (xVar 2) (xCons (xVar 3) xNil))))))
theorem b_couple_masks {P : Program} {w : World} {K : PySem.W.Frag} {mg : Str → Option Value} {base : Heap} {dn : Dn} {f : Addr}{ S_reaches : FS}  (G : Gs K mg) (c_reaches : Cal P w K mg base dn 2 "reaches" s_reaches P_reaches S_reaches) (cdv : Value) (A : Around) (outer : List Env) (s : Shared) (H : Hp) (E : XK) (B : Bs) (hB : B.dn = dn) (hr : Room 2 (A.deeper (envOfC "couple_masks" (defScope s_couple_masks) s.heap.objs.size f cdv))) (hgd : A.guards = some []) : DSs (cxOf CX0 P w K mg base N_couple_masks "couple_masks" (defScope s_couple_masks) f cdv A outer s H E).nox B (defBody s_couple_masks) (T_couple_masks S_reaches) := by
  subst hB
  have nd := sc_couple_masks.nd
  exact (dss_cons (ds_asg (de_tup (da_cons de_int (da_cons de_int da_nil))) (dg_tup rfl (dgs_cons (dg_name (i := 2) nd) (dgs_cons (dg_name (i := 3) nd) dgs_nil)))) (dss_cons (ds_for (ps_for PassesOwn.never rfl (dif_zip (pi_zipB rfl G.f_zip (da_cons (de_var (i := 1)) (da_cons (c_reaches.de hr hgd (by decide) rfl (da_cons (de_var (i := 0)) (da_cons (de_var (i := 1)) da_nil))) da_nil)))) (dg_tup rfl (dgs_cons (dg_name (i := 4) nd) (dgs_cons (dg_name (i := 5) nd) dgs_nil))) (dss_one (ds_if (dt_cmp (op_eqD (rm64 hr)) (by rfl) ok_Eq (dr_ix (rm1 hr) (dr_var (i := 4)) (dr_of_de de_int)) (dr_of_de de_str)) (dss_one (ds_par2 (ps_par (i := 2) (j := 3) rfl nd rfl rfl (by decide) rfl rfl (da_cons (de_op op_or ok_I0 (dr_var (i := 2)) (dr_var (i := 5))) (da_cons (de_op op_and ok_I0 (dr_var (i := 3)) (dr_of_de (de_un un_inv ok_Inv (dr_var (i := 5))))) da_nil)) rfl))) (dss_one (ds_par2 (ps_par (i := 2) (j := 3) rfl nd rfl rfl (by decide) rfl rfl (da_cons (de_op op_and ok_I0 (dr_var (i := 2)) (dr_of_de (de_un un_inv ok_Inv (dr_var (i := 5))))) (da_cons (de_op op_or ok_I0 (dr_var (i := 3)) (dr_var (i := 5))) da_nil)) rfl))))))) (dss_one (ds_ret (de_tup (da_cons (de_var (i := 2)) (da_cons (de_var (i := 3)) da_nil)))))))
abbrev N_need_hills : List Str := [("one" : Str), ("other" : Str)]
abbrev P_need_hills : List Str := [("one" : Str), ("other" : Str)]
theorem sc_need_hills : FnScope N_need_hills P_need_hills (defScope s_need_hills) := ⟨rfl, rfl, rfl, by decide +kernel, rfl, by decide +kernel, by decide +kernel⟩
def T_need_hills (S_need_hill : FS) : XS := (sSeq (sDrop (xCall S_need_hill (xCons (xVar 0) xNil))) (sDrop (xCall S_need_hill (xCons (xVar 1) xNil))))
theorem b_need_hills {P : Program} {w : World} {K : PySem.W.Frag} {mg : Str → Option Value} {base : Heap} {dn : Dn} {f : Addr}{ S_need_hill : FS}  (G : Gs K mg) (c_need_hill : Cal P w K mg base dn 6 "need_hill" s_need_hill P_need_hill S_need_hill) (cdv : Value) (A : Around) (outer : List Env) (s : Shared) (H : Hp) (E : XK) (B : Bs) (hB : B.dn = dn) (hr : Room 6 (A.deeper (envOfC "need_hills" (defScope s_need_hills) s.heap.objs.size f cdv))) (hgd : A.guards = some []) : DSs (cxOf CX0 P w K mg base N_need_hills "need_hills" (defScope s_need_hills) f cdv A outer s H E).nox B (defBody s_need_hills) (T_need_hills S_need_hill) := by
  subst hB
  have nd := sc_need_hills.nd
  exact (dss_cons (ds_expr (c_need_hill.de hr hgd (by decide) rfl (da_cons (de_var (i := 0)) da_nil))) (dss_one (ds_expr (c_need_hill.de hr hgd (by decide) rfl (da_cons (de_var (i := 1)) da_nil)))))
abbrev N_is_map_value : List Str := [("one" : Str), ("other" : Str), ("thing" : Str), ("below" : Str), ("place" : Str), ("a" : Str), ("b" : Str)]
abbrev P_is_map_value : List Str := [("one" : Str), ("other" : Str), ("thing" : Str)]
theorem sc_is_map_value : FnScope N_is_map_value P_is_map_value (defScope s_is_map_value) := ⟨rfl, rfl, rfl, by decide +kernel, rfl, by decide +kernel, by decide +kernel⟩
def T_is_map_value (S_is_between : FS) (S_lows : FS) : XS := (sSeq (sIf (tOrX (tNotX (tBl (xIsi (xVarR 2) "tuple"))) (tBl (x2 cNe (xCB cLen (xCons (xVarR 2) xNil)) (xIx (xVarR 0) (xC (.int 0)))))) (sRet (xC (.bool false))) sNext) (sSeq (sIf (tNotX (tBl (xCB cAll (xCons (xLC (xSeq (xVarR 2)) (gNm 4) uYes (xCall S_is_between (xCons (xVar 4) (xCons (xC (.int 0)) (xCons (x2 (cI0 fun i j => i - j) (xIx (xVarR 1) (xC (.int 0))) (xC (.int 1))) xNil)))) [4]) xNil)))) (sRet (xC (.bool false))) sNext) (sSeq (sSet 3 (xCall S_lows (xCons (xVar 1) xNil))) (sRet (xCB cAll (xCons (xLC (xSeq (xIx (xVarR 0) (xC (.int 1)))) (gTp 2 (gC (gNm 5) (gC (gNm 6) gN0))) uYes (x2 cEq (x2 (cI0 Builtin.bitAnd) (x2 (cI (fun _ j => 0 ≤ j) fun i j => i / 2 ^ j.toNat) (xIx (xVarR 3) (xIx (xVarR 2) (xVarR 6))) (xIx (xVarR 2) (xVarR 5))) (xC (.int 1))) (xC (.int 1))) [5, 6]) xNil))))))
theorem b_is_map_value {P : Program} {w : World} {K : PySem.W.Frag} {mg : Str → Option Value} {base : Heap} {dn : Dn} {f : Addr}{ S_is_between S_lows : FS}  (G : Gs K mg) (c_is_between : Cal P w K mg base dn 2 "is_between" s_is_between P_is_between S_is_between) (c_lows : Cal P w K mg base dn 1 "lows" s_lows P_lows S_lows) (cdv : Value) (A : Around) (outer : List Env) (s : Shared) (H : Hp) (E : XK) (B : Bs) (hB : B.dn = dn) (hr : Room 2 (A.deeper (envOfC "is_map_value" (defScope s_is_map_value) s.heap.objs.size f cdv))) (hgd : A.guards = some []) : DSs (cxOf CX0 P w K mg base N_is_map_value "is_map_value" (defScope s_is_map_value) f cdv A outer s H E).nox B (defBody s_is_map_value) (T_is_map_value S_is_between S_lows) := by
  subst hB
  have nd := sc_is_map_value.nd
  exact (dss_cons (ds_if (dt_w (dw_or (dt_not (dt_val (de_isi (ty := "tuple") rfl G.f_isinstance rfl G.f_tuple boot_tuple (by decide) (by decide) (dr_var (i := 2))))) (dw_or1 (dt_cmp (op_neD (rm64 hr)) (by rfl) ok_Ne (dr_of_de (de_cb ok_len (pe_callB call_len (by rfl) G.f_len boot_len (pa_sz (db_cons (dr_var (i := 2)) db_nil))))) (dr_ix (rm1 hr) (dr_var (i := 0)) (dr_of_de de_int)))))) (dss_one (ds_ret de_bl)) dss_nil) (dss_cons (ds_if (dt_not (dt_val (de_cb ok_all (pe_callB (cr_all rfl) (by rfl) G.f_all boot_all (pa_sz (db_cons (dr_of_de (de_lc (pe_lc (own := [(("place" : Str), 4)]) rfl nd (dib_seq (dr_var (i := 2))) (blkOk_by (by kernel_rfl)) (fun _ _ _ _ _ => (dg_name (i := 4) nd)) (fun _ _ _ _ _ => dts_nil) (fun _ _ _ _ _ => (c_is_between.de hr hgd (by decide) rfl (da_cons (de_var (i := 4)) (da_cons de_int (da_cons (de_op op_sub ok_I0 (dr_ix (rm1 hr) (dr_var (i := 1)) (dr_of_de de_int)) (dr_of_de de_int)) da_nil)))))))) db_nil)))))) (dss_one (ds_ret de_bl)) dss_nil) (dss_cons (ds_set (i := 3) nd (c_lows.de hr hgd (by decide) rfl (da_cons (de_var (i := 1)) da_nil))) (dss_one (ds_ret (de_cb ok_all (pe_callB (cr_all rfl) (by rfl) G.f_all boot_all (pa_sz (db_cons (dr_of_de (de_lc (pe_lc (own := [(("a" : Str), 5), (("b" : Str), 6)]) rfl nd (dib_seq (dr_ix (rm1 hr) (dr_var (i := 0)) (dr_of_de de_int))) (blkOk_by (by kernel_rfl)) (fun _ _ _ _ _ => (dg_tup rfl (dgs_cons (dg_name (i := 5) nd) (dgs_cons (dg_name (i := 6) nd) dgs_nil)))) (fun _ _ _ _ _ => dts_nil) (fun _ _ _ _ _ => (de_cmp (op_eqD (rm64 hr)) (by rfl) ok_Eq (dr_of_de (de_op op_and ok_I0 (dr_of_de (de_op op_shr ok_I (dr_ix (rm1 hr) (dr_var (i := 3)) (dr_ix (rm1 hr) (dr_var (i := 2)) (dr_var (i := 6)))) (dr_ix (rm1 hr) (dr_var (i := 2)) (dr_var (i := 5))))) (dr_of_de de_int))) (dr_of_de de_int)))))) db_nil)))))))))
abbrev N_need_map : List Str := [("one" : Str), ("other" : Str), ("places" : Str)]
abbrev P_need_map : List Str := [("one" : Str), ("other" : Str), ("places" : Str)]
theorem sc_need_map : FnScope N_need_map P_need_map (defScope s_need_map) := ⟨rfl, rfl, rfl, by decide +kernel, rfl, by decide +kernel, by decide +kernel⟩
def T_need_map (S_need_hills : FS) (S_is_map_value : FS) : XS := (sSeq (sDrop (xCall S_need_hills (xCons (xVar 0) (xCons (xVar 1) xNil)))) (sIf (tNotX (tBl (xCall S_is_map_value (xCons (xVar 0) (xCons (xVar 1) (xCons (xVar 2) xNil)))))) sNever sNext))
theorem b_need_map {P : Program} {w : World} {K : PySem.W.Frag} {mg : Str → Option Value} {base : Heap} {dn : Dn} {f : Addr}{ S_need_hills S_is_map_value : FS}  (G : Gs K mg) (c_need_hills : Cal P w K mg base dn 7 "need_hills" s_need_hills P_need_hills S_need_hills) (c_is_map_value : Cal P w K mg base dn 3 "is_map_value" s_is_map_value P_is_map_value S_is_map_value) (cdv : Value) (A : Around) (outer : List Env) (s : Shared) (H : Hp) (E : XK) (B : Bs) (hB : B.dn = dn) (hr : Room 7 (A.deeper (envOfC "need_map" (defScope s_need_map) s.heap.objs.size f cdv))) (hgd : A.guards = some []) : DSs (cxOf CX0 P w K mg base N_need_map "need_map" (defScope s_need_map) f cdv A outer s H E).nox B (defBody s_need_map) (T_need_map S_need_hills S_is_map_value) := by
  subst hB
  have nd := sc_need_map.nd
  exact (dss_cons (ds_expr (c_need_hills.de hr hgd (by decide) rfl (da_cons (de_var (i := 0)) (da_cons (de_var (i := 1)) da_nil)))) (dss_one (ds_if (dt_not (dt_val (c_is_map_value.de hr hgd (by decide) rfl (da_cons (de_var (i := 0)) (da_cons (de_var (i := 1)) (da_cons (de_var (i := 2)) da_nil)))))) (dss_one ds_never) dss_nil)))
abbrev N_need_water_maps : List Str := [("hill" : Str), ("water" : Str)]
abbrev P_need_water_maps : List Str := [("hill" : Str), ("water" : Str)]
theorem sc_need_water_maps : FnScope N_need_water_maps P_need_water_maps (defScope s_need_water_maps) := ⟨rfl, rfl, rfl, by decide +kernel, rfl, by decide +kernel, by decide +kernel⟩
def T_need_water_maps (S_is_lower_value : FS) : XS := (sIf (tNotX (tBl (xCall S_is_lower_value (xCons (xVar 0) (xCons (xVar 1) xNil))))) sNever sNext)
theorem b_need_water_maps {P : Program} {w : World} {K : PySem.W.Frag} {mg : Str → Option Value} {base : Heap} {dn : Dn} {f : Addr}{ S_is_lower_value : FS}  (G : Gs K mg) (c_is_lower_value : Cal P w K mg base dn 4 "is_lower_value" s_is_lower_value P_is_lower_value S_is_lower_value) (cdv : Value) (A : Around) (outer : List Env) (s : Shared) (H : Hp) (E : XK) (B : Bs) (hB : B.dn = dn) (hr : Room 4 (A.deeper (envOfC "need_water" (defScope s_need_water_maps) s.heap.objs.size f cdv))) (hgd : A.guards = some []) : DSs (cxOf CX0 P w K mg base N_need_water_maps "need_water" (defScope s_need_water_maps) f cdv A outer s H E).nox B (defBody s_need_water_maps) (T_need_water_maps S_is_lower_value) := by
  subst hB
  have nd := sc_need_water_maps.nd
  exact (dss_one (ds_if (dt_not (dt_val (c_is_lower_value.de hr hgd (by decide) rfl (da_cons (de_var (i := 0)) (da_cons (de_var (i := 1)) da_nil))))) (dss_one ds_never) dss_nil))
abbrev N_carried_mask : List Str := [("places" : Str), ("mask" : Str), ("terrace" : Str), ("place" : Str)]
abbrev P_carried_mask : List Str := [("places" : Str), ("mask" : Str)]
theorem sc_carried_mask : FnScope N_carried_mask P_carried_mask (defScope s_carried_mask) := ⟨rfl, rfl, rfl, by decide +kernel, rfl, by decide +kernel, by decide +kernel⟩
def T_carried_mask (S_mask_of : FS) : XS := (sRet (xCall S_mask_of (xCons (xLC (xEnum (xCons (xVarR 0) xNil)) (gTp 2 (gC (gNm 2) (gC (gNm 3) gN0))) (tBl (x2 cEq (x2 (cI0 Builtin.bitAnd) (x2 (cI (fun _ j => 0 ≤ j) fun i j => i / 2 ^ j.toNat) (xVarR 1) (xVarR 3)) (xC (.int 1))) (xC (.int 1)))) (xVar 2) [2, 3]) xNil)))
theorem b_carried_mask {P : Program} {w : World} {K : PySem.W.Frag} {mg : Str → Option Value} {base : Heap} {dn : Dn} {f : Addr}{ S_mask_of : FS}  (G : Gs K mg) (c_mask_of : Cal P w K mg base dn 1 "mask_of" s_mask_of P_mask_of S_mask_of) (cdv : Value) (A : Around) (outer : List Env) (s : Shared) (H : Hp) (E : XK) (B : Bs) (hB : B.dn = dn) (hr : Room 1 (A.deeper (envOfC "carried_mask" (defScope s_carried_mask) s.heap.objs.size f cdv))) (hgd : A.guards = some []) : DSs (cxOf CX0 P w K mg base N_carried_mask "carried_mask" (defScope s_carried_mask) f cdv A outer s H E).nox B (defBody s_carried_mask) (T_carried_mask S_mask_of) := by
  subst hB
  have nd := sc_carried_mask.nd
  exact (dss_one (ds_ret (c_mask_of.de hr hgd (by decide) rfl (da_cons (de_lc (pe_lc (own := [(("terrace" : Str), 2), (("place" : Str), 3)]) rfl nd (dib_enum (pi_enumB rfl G.f_enumerate (db_cons (dr_var (i := 0)) db_nil))) (blkOk_by (by kernel_rfl)) (fun _ _ _ _ _ => (dg_tup rfl (dgs_cons (dg_name (i := 2) nd) (dgs_cons (dg_name (i := 3) nd) dgs_nil)))) (fun _ _ _ _ _ => (dts_one (dt_cmp (op_eqD (rm64 hr)) (by rfl) ok_Eq (dr_of_de (de_op op_and ok_I0 (dr_of_de (de_op op_shr ok_I (dr_var (i := 1)) (dr_var (i := 3)))) (dr_of_de de_int))) (dr_of_de de_int)))) (fun _ _ _ _ _ => (de_var (i := 2))))) da_nil))))
abbrev N_carried_water : List Str := [("one" : Str), ("other" : Str), ("places" : Str), ("water" : Str)]
abbrev P_carried_water : List Str := [("one" : Str), ("other" : Str), ("places" : Str), ("water" : Str)]
theorem sc_carried_water : FnScope N_carried_water P_carried_water (defScope s_carried_water) := ⟨rfl, rfl, rfl, by decide +kernel, rfl, by decide +kernel, by decide +kernel⟩
def T_carried_water (S_need_map : FS) (S_need_water_maps : FS) (S_lot_of : FS) (S_carried_mask : FS) (S_mask_of : FS) : XS := (sSeq (sDrop (xCall S_need_map (xCons (xVar 0) (xCons (xVar 1) (xCons (xVar 2) xNil))))) (sSeq (sDrop (xCall S_need_water_maps (xCons (xVar 1) (xCons (xVar 3) xNil)))) (sRet (xCall S_lot_of (xCons (xCall S_carried_mask (xCons (xVar 2) (xCons (xCall S_mask_of (xCons (xVar 3) xNil)) xNil))) xNil)))))
theorem b_carried_water {P : Program} {w : World} {K : PySem.W.Frag} {mg : Str → Option Value} {base : Heap} {dn : Dn} {f : Addr}{ S_need_map S_need_water_maps S_lot_of S_carried_mask S_mask_of : FS}  (G : Gs K mg) (c_need_map : Cal P w K mg base dn 8 "need_map" s_need_map P_need_map S_need_map) (c_need_water_maps : Cal P w K mg base dn 5 "need_water_maps" s_need_water_maps P_need_water_maps S_need_water_maps) (c_lot_of : Cal P w K mg base dn 1 "lot_of" s_lot_of P_lot_of S_lot_of) (c_carried_mask : Cal P w K mg base dn 2 "carried_mask" s_carried_mask P_carried_mask S_carried_mask) (c_mask_of : Cal P w K mg base dn 1 "mask_of" s_mask_of P_mask_of S_mask_of) (cdv : Value) (A : Around) (outer : List Env) (s : Shared) (H : Hp) (E : XK) (B : Bs) (hB : B.dn = dn) (hr : Room 8 (A.deeper (envOfC "carried_water" (defScope s_carried_water) s.heap.objs.size f cdv))) (hgd : A.guards = some []) : DSs (cxOf CX0 P w K mg base N_carried_water "carried_water" (defScope s_carried_water) f cdv A outer s H E).nox B (defBody s_carried_water) (T_carried_water S_need_map S_need_water_maps S_lot_of S_carried_mask S_mask_of) := by
  subst hB
  have nd := sc_carried_water.nd
  exact (dss_cons (ds_expr (c_need_map.de hr hgd (by decide) rfl (da_cons (de_var (i := 0)) (da_cons (de_var (i := 1)) (da_cons (de_var (i := 2)) da_nil))))) (dss_cons (ds_expr (c_need_water_maps.de hr hgd (by decide) rfl (da_cons (de_var (i := 1)) (da_cons (de_var (i := 3)) da_nil)))) (dss_one (ds_ret (c_lot_of.de hr hgd (by decide) rfl (da_cons (c_carried_mask.de hr hgd (by decide) rfl (da_cons (de_var (i := 2)) (da_cons (c_mask_of.de hr hgd (by decide) rfl (da_cons (de_var (i := 3)) da_nil)) da_nil))) da_nil))))))
abbrev N_carried_terraces : List Str := [("one" : Str), ("other" : Str), ("places" : Str), ("deed" : Str), ("mask" : Str)]
abbrev P_carried_terraces : List Str := [("one" : Str), ("other" : Str), ("places" : Str), ("deed" : Str)]
theorem sc_carried_terraces : FnScope N_carried_terraces P_carried_terraces (defScope s_carried_terraces) := ⟨rfl, rfl, rfl, by decide +kernel, rfl, by decide +kernel, by decide +kernel⟩
def T_carried_terraces (S_carried_mask : FS) (S_reach_mask : FS) (S_highest_of : FS) (S_lowest_of : FS) : XS := (sSeq (sSet 4 (xCall S_carried_mask (xCons (xVar 2) (xCons (xCall S_reach_mask (xCons (xVar 1) (xCons (xVar 3) xNil))) xNil)))) (sRet (xCB cSorted (xCons (xIf (tBl (x2 cEq (xIx (xVarR 3) (xC (.int 0))) (xC (.str ("pour" : Str))))) (xCall S_highest_of (xCons (xVar 0) (xCons (xVar 4) xNil))) (xCall S_lowest_of (xCons (xVar 0) (xCons (xVar 4) xNil)))) xNil))))
theorem b_carried_terraces {P : Program} {w : World} {K : PySem.W.Frag} {mg : Str → Option Value} {base : Heap} {dn : Dn} {f : Addr}{ S_carried_mask S_reach_mask S_highest_of S_lowest_of : FS}  (G : Gs K mg) (c_carried_mask : Cal P w K mg base dn 2 "carried_mask" s_carried_mask P_carried_mask S_carried_mask) (c_reach_mask : Cal P w K mg base dn 3 "reach_mask" s_reach_mask P_reach_mask S_reach_mask) (c_highest_of : Cal P w K mg base dn 3 "highest_of" s_highest_of P_highest_of S_highest_of) (c_lowest_of : Cal P w K mg base dn 3 "lowest_of" s_lowest_of P_lowest_of S_lowest_of) (cdv : Value) (A : Around) (outer : List Env) (s : Shared) (H : Hp) (E : XK) (B : Bs) (hB : B.dn = dn) (hr : Room 3 (A.deeper (envOfC "carried_terraces" (defScope s_carried_terraces) s.heap.objs.size f cdv))) (hgd : A.guards = some []) : DSs (cxOf CX0 P w K mg base N_carried_terraces "carried_terraces" (defScope s_carried_terraces) f cdv A outer s H E).nox B (defBody s_carried_terraces) (T_carried_terraces S_carried_mask S_reach_mask S_highest_of S_lowest_of) := by
  subst hB
  have nd := sc_carried_terraces.nd
  exact (dss_cons (ds_set (i := 4) nd (c_carried_mask.de hr hgd (by decide) rfl (da_cons (de_var (i := 2)) (da_cons (c_reach_mask.de hr hgd (by decide) rfl (da_cons (de_var (i := 1)) (da_cons (de_var (i := 3)) da_nil))) da_nil)))) (dss_one (ds_ret (de_cb ok_sorted (pe_callB (cr_sortedDD (rm65 hr)) (by rfl) G.f_sorted boot_sorted (pa_sz (db_cons (dr_of_de (de_if (dt_cmp (op_eqD (rm64 hr)) (by rfl) ok_Eq (dr_ix (rm1 hr) (dr_var (i := 3)) (dr_of_de de_int)) (dr_of_de de_str)) (c_highest_of.de hr hgd (by decide) rfl (da_cons (de_var (i := 0)) (da_cons (de_var (i := 4)) da_nil))) (c_lowest_of.de hr hgd (by decide) rfl (da_cons (de_var (i := 0)) (da_cons (de_var (i := 4)) da_nil))))) db_nil)))))))
abbrev N_deeds_carried : List Str := [("one" : Str), ("other" : Str), ("places" : Str), ("deed" : Str), ("terrace" : Str)]
abbrev P_deeds_carried : List Str := [("one" : Str), ("other" : Str), ("places" : Str), ("deed" : Str)]
theorem sc_deeds_carried : FnScope N_deeds_carried P_deeds_carried (defScope s_deeds_carried) := ⟨rfl, rfl, rfl, by decide +kernel, rfl, by decide +kernel, by decide +kernel⟩
def T_deeds_carried (S_carried_terraces : FS) : XS := (sRet (xCB cTup (xCons (xLC (xSeq (xCall S_carried_terraces (xCons (xVar 0) (xCons (xVar 1) (xCons (xVar 2) (xCons (xVar 3) xNil)))))) (gNm 4) uYes (xTup (xCons (xFlat (xIx (xVarR 3) (xC (.int 0)))) (xCons (xVar 4) xNil))) [4]) xNil)))
theorem b_deeds_carried {P : Program} {w : World} {K : PySem.W.Frag} {mg : Str → Option Value} {base : Heap} {dn : Dn} {f : Addr}{ S_carried_terraces : FS}  (G : Gs K mg) (c_carried_terraces : Cal P w K mg base dn 4 "carried_terraces" s_carried_terraces P_carried_terraces S_carried_terraces) (cdv : Value) (A : Around) (outer : List Env) (s : Shared) (H : Hp) (E : XK) (B : Bs) (hB : B.dn = dn) (hr : Room 4 (A.deeper (envOfC "deeds_carried" (defScope s_deeds_carried) s.heap.objs.size f cdv))) (hgd : A.guards = some []) : DSs (cxOf CX0 P w K mg base N_deeds_carried "deeds_carried" (defScope s_deeds_carried) f cdv A outer s H E).nox B (defBody s_deeds_carried) (T_deeds_carried S_carried_terraces) := by
  subst hB
  have nd := sc_deeds_carried.nd
  exact (dss_one (ds_ret (de_cb ok_tup (pe_callTy call_tuple_of (by rfl) G.f_tuple boot_tuple (pa_sz (db_cons (dr_of_de (de_lc (pe_lc (own := [(("terrace" : Str), 4)]) rfl nd (dib_seq (dr_of_de (c_carried_terraces.de hr hgd (by decide) rfl (da_cons (de_var (i := 0)) (da_cons (de_var (i := 1)) (da_cons (de_var (i := 2)) (da_cons (de_var (i := 3)) da_nil))))))) (blkOk_by (by kernel_rfl)) (fun _ _ _ _ _ => (dg_name (i := 4) nd)) (fun _ _ _ _ _ => dts_nil) (fun _ _ _ _ _ => (de_tup (da_cons (de_of_dr (dr_ix (rm1 hr) (dr_var (i := 3)) (dr_of_de de_int))) (da_cons (de_var (i := 4)) da_nil))))))) db_nil))))))
abbrev N_carried_deed : List Str := [("one" : Str), ("other" : Str), ("places" : Str), ("deed" : Str)]
abbrev P_carried_deed : List Str := [("one" : Str), ("other" : Str), ("places" : Str), ("deed" : Str)]
theorem sc_carried_deed : FnScope N_carried_deed P_carried_deed (defScope s_carried_deed) := ⟨rfl, rfl, rfl, by decide +kernel, rfl, by decide +kernel, by decide +kernel⟩
def T_carried_deed (S_need_map : FS) (S_is_deed_value : FS) (S_deeds_carried : FS) : XS := (sSeq (sDrop (xCall S_need_map (xCons (xVar 0) (xCons (xVar 1) (xCons (xVar 2) xNil))))) (sSeq (sIf (tNotX (tBl (xCall S_is_deed_value (xCons (xFlat (xIx (xVarR 1) (xC (.int 0)))) (xCons (xVar 3) xNil))))) sNever sNext) (sRet (xCall S_deeds_carried (xCons (xVar 0) (xCons (xVar 1) (xCons (xVar 2) (xCons (xVar 3) xNil))))))))
theorem b_carried_deed {P : Program} {w : World} {K : PySem.W.Frag} {mg : Str → Option Value} {base : Heap} {dn : Dn} {f : Addr}{ S_need_map S_is_deed_value S_deeds_carried : FS}  (G : Gs K mg) (c_need_map : Cal P w K mg base dn 8 "need_map" s_need_map P_need_map S_need_map) (c_is_deed_value : Cal P w K mg base dn 3 "is_deed_value" s_is_deed_value P_is_deed_value S_is_deed_value) (c_deeds_carried : Cal P w K mg base dn 5 "deeds_carried" s_deeds_carried P_deeds_carried S_deeds_carried) (cdv : Value) (A : Around) (outer : List Env) (s : Shared) (H : Hp) (E : XK) (B : Bs) (hB : B.dn = dn) (hr : Room 8 (A.deeper (envOfC "carried_deed" (defScope s_carried_deed) s.heap.objs.size f cdv))) (hgd : A.guards = some []) : DSs (cxOf CX0 P w K mg base N_carried_deed "carried_deed" (defScope s_carried_deed) f cdv A outer s H E).nox B (defBody s_carried_deed) (T_carried_deed S_need_map S_is_deed_value S_deeds_carried) := by
  subst hB
  have nd := sc_carried_deed.nd
  exact (dss_cons (ds_expr (c_need_map.de hr hgd (by decide) rfl (da_cons (de_var (i := 0)) (da_cons (de_var (i := 1)) (da_cons (de_var (i := 2)) da_nil))))) (dss_cons (ds_if (dt_not (dt_val (c_is_deed_value.de hr hgd (by decide) rfl (da_cons (de_of_dr (dr_ix (rm1 hr) (dr_var (i := 1)) (dr_of_de de_int))) (da_cons (de_var (i := 3)) da_nil))))) (dss_one ds_never) dss_nil) (dss_one (ds_ret (c_deeds_carried.de hr hgd (by decide) rfl (da_cons (de_var (i := 0)) (da_cons (de_var (i := 1)) (da_cons (de_var (i := 2)) (da_cons (de_var (i := 3)) da_nil)))))))))
abbrev N_carried_script : List Str := [("one" : Str), ("other" : Str), ("places" : Str), ("script" : Str), ("found" : Str), ("deed" : Str)]
abbrev P_carried_script : List Str := [("one" : Str), ("other" : Str), ("places" : Str), ("script" : Str)]
theorem sc_carried_script : FnScope N_carried_script P_carried_script (defScope s_carried_script) := ⟨rfl, rfl, rfl, by decide +kernel, rfl, by decide +kernel, by decide +kernel⟩
def T_carried_script (S_need_map : FS) (S_is_script_value : FS) (S_deeds_carried : FS) : XS := (sSeq (sDrop (xCall S_need_map (xCons (xVar 0) (xCons (xVar 1) (xCons (xVar 2) xNil))))) (sSeq (sIf (tNotX (tBl (xCall S_is_script_value (xCons (xFlat (xIx (xVarR 1) (xC (.int 0)))) (xCons (xVar 3) xNil))))) sNever sNext) (sSeq (sSet 4 (xTup xNil)) (sSeq (sFor (xSeq (xVar 3)) (gNm 5) (sSet 4 (x2 cAdd (xVarR 4) (xCall S_deeds_carried (xCons (xVar 0) (xCons (xVar 1) (xCons (xVar 2) (xCons (xVar 5) xNil)))))))) (sRetV 4)))))
theorem b_carried_script {P : Program} {w : World} {K : PySem.W.Frag} {mg : Str → Option Value} {base : Heap} {dn : Dn} {f : Addr}{ S_need_map S_is_script_value S_deeds_carried : FS}  (G : Gs K mg) (c_need_map : Cal P w K mg base dn 8 "need_map" s_need_map P_need_map S_need_map) (c_is_script_value : Cal P w K mg base dn 4 "is_script_value" s_is_script_value P_is_script_value S_is_script_value) (c_deeds_carried : Cal P w K mg base dn 5 "deeds_carried" s_deeds_carried P_deeds_carried S_deeds_carried) (cdv : Value) (A : Around) (outer : List Env) (s : Shared) (H : Hp) (E : XK) (B : Bs) (hB : B.dn = dn) (hr : Room 8 (A.deeper (envOfC "carried_script" (defScope s_carried_script) s.heap.objs.size f cdv))) (hgd : A.guards = some []) : DSs (cxOf CX0 P w K mg base N_carried_script "carried_script" (defScope s_carried_script) f cdv A outer s H E).nox B (defBody s_carried_script) (T_carried_script S_need_map S_is_script_value S_deeds_carried) := by
  subst hB
  have nd := sc_carried_script.nd
  exact (dss_cons (ds_expr (c_need_map.de hr hgd (by decide) rfl (da_cons (de_var (i := 0)) (da_cons (de_var (i := 1)) (da_cons (de_var (i := 2)) da_nil))))) (dss_cons (ds_if (dt_not (dt_val (c_is_script_value.de hr hgd (by decide) rfl (da_cons (de_of_dr (dr_ix (rm1 hr) (dr_var (i := 1)) (dr_of_de de_int))) (da_cons (de_var (i := 3)) da_nil))))) (dss_one ds_never) dss_nil) (dss_cons (ds_set (i := 4) nd (de_tup da_nil)) (dss_cons (ds_for (ps_for PassesOwn.never rfl (dif_seq (de_var (i := 3))) (dg_name (i := 5) nd) (dss_one (ds_set (i := 4) nd (de_op op_addAll ok_Add (dr_var (i := 4)) (dr_of_de (c_deeds_carried.de hr hgd (by decide) rfl (da_cons (de_var (i := 0)) (da_cons (de_var (i := 1)) (da_cons (de_var (i := 2)) (da_cons (de_var (i := 5)) da_nil))))))))))) (dss_one (ds_retv (i := 4) (ps_ret (pe_var rfl (by first | exact Or.inl rfl | exact Or.inr (Or.inl rfl) | exact Or.inr (Or.inr rfl))))))))))
abbrev N_is_water : List Str := [("hill" : Str), ("thing" : Str)]
abbrev P_is_water : List Str := [("hill" : Str), ("thing" : Str)]
theorem sc_is_water : FnScope N_is_water P_is_water (defScope s_is_water) := ⟨rfl, rfl, rfl, by decide +kernel, rfl, by decide +kernel, by decide +kernel⟩
def T_is_water (S_need_hill : FS) (S_is_lower_value : FS) : XS := (sSeq (sDrop (xCall S_need_hill (xCons (xVar 0) xNil))) (sRet (xCall S_is_lower_value (xCons (xVar 0) (xCons (xVar 1) xNil)))))
theorem b_is_water {P : Program} {w : World} {K : PySem.W.Frag} {mg : Str → Option Value} {base : Heap} {dn : Dn} {f : Addr}{ S_need_hill S_is_lower_value : FS}  (G : Gs K mg) (c_need_hill : Cal P w K mg base dn 6 "need_hill" s_need_hill P_need_hill S_need_hill) (c_is_lower_value : Cal P w K mg base dn 4 "is_lower_value" s_is_lower_value P_is_lower_value S_is_lower_value) (cdv : Value) (A : Around) (outer : List Env) (s : Shared) (H : Hp) (E : XK) (B : Bs) (hB : B.dn = dn) (hr : Room 6 (A.deeper (envOfC "is_water" (defScope s_is_water) s.heap.objs.size f cdv))) (hgd : A.guards = some []) : DSs (cxOf CX0 P w K mg base N_is_water "is_water" (defScope s_is_water) f cdv A outer s H E).nox B (defBody s_is_water) (T_is_water S_need_hill S_is_lower_value) := by
  subst hB
  have nd := sc_is_water.nd
  exact (dss_cons (ds_expr (c_need_hill.de hr hgd (by decide) rfl (da_cons (de_var (i := 0)) da_nil))) (dss_one (ds_ret (c_is_lower_value.de hr hgd (by decide) rfl (da_cons (de_var (i := 0)) (da_cons (de_var (i := 1)) da_nil))))))
abbrev N_need_water_scripts : List Str := [("hill" : Str), ("water" : Str)]
abbrev P_need_water_scripts : List Str := [("hill" : Str), ("water" : Str)]
theorem sc_need_water_scripts : FnScope N_need_water_scripts P_need_water_scripts (defScope s_need_water_scripts) := ⟨rfl, rfl, rfl, by decide +kernel, rfl, by decide +kernel, by decide +kernel⟩
def T_need_water_scripts (S_need_hill : FS) (S_is_lower_value : FS) : XS := (sSeq (sDrop (xCall S_need_hill (xCons (xVar 0) xNil))) (sIf (tNotX (tBl (xCall S_is_lower_value (xCons (xVar 0) (xCons (xVar 1) xNil))))) sNever sNext))
theorem b_need_water_scripts {P : Program} {w : World} {K : PySem.W.Frag} {mg : Str → Option Value} {base : Heap} {dn : Dn} {f : Addr}{ S_need_hill S_is_lower_value : FS}  (G : Gs K mg) (c_need_hill : Cal P w K mg base dn 6 "need_hill" s_need_hill P_need_hill S_need_hill) (c_is_lower_value : Cal P w K mg base dn 4 "is_lower_value" s_is_lower_value P_is_lower_value S_is_lower_value) (cdv : Value) (A : Around) (outer : List Env) (s : Shared) (H : Hp) (E : XK) (B : Bs) (hB : B.dn = dn) (hr : Room 6 (A.deeper (envOfC "need_water" (defScope s_need_water_scripts) s.heap.objs.size f cdv))) (hgd : A.guards = some []) : DSs (cxOf CX0 P w K mg base N_need_water_scripts "need_water" (defScope s_need_water_scripts) f cdv A outer s H E).nox B (defBody s_need_water_scripts) (T_need_water_scripts S_need_hill S_is_lower_value) := by
  subst hB
  have nd := sc_need_water_scripts.nd
  exact (dss_cons (ds_expr (c_need_hill.de hr hgd (by decide) rfl (da_cons (de_var (i := 0)) da_nil))) (dss_one (ds_if (dt_not (dt_val (c_is_lower_value.de hr hgd (by decide) rfl (da_cons (de_var (i := 0)) (da_cons (de_var (i := 1)) da_nil))))) (dss_one ds_never) dss_nil)))
abbrev N_reach : List Str := [("hill" : Str), ("deed" : Str)]
abbrev P_reach : List Str := [("hill" : Str), ("deed" : Str)]
theorem sc_reach : FnScope N_reach P_reach (defScope s_reach) := ⟨rfl, rfl, rfl, by decide +kernel, rfl, by decide +kernel, by decide +kernel⟩
def T_reach (S_need_hill : FS) (S_is_deed_value : FS) (S_lot_of : FS) (S_reach_mask : FS) : XS := (sSeq (sDrop (xCall S_need_hill (xCons (xVar 0) xNil))) (sSeq (sIf (tNotX (tBl (xCall S_is_deed_value (xCons (xFlat (xIx (xVarR 0) (xC (.int 0)))) (xCons (xVar 1) xNil))))) sNever sNext) (sRet (xCall S_lot_of (xCons (xCall S_reach_mask (xCons (xVar 0) (xCons (xVar 1) xNil))) xNil)))))
theorem b_reach {P : Program} {w : World} {K : PySem.W.Frag} {mg : Str → Option Value} {base : Heap} {dn : Dn} {f : Addr}{ S_need_hill S_is_deed_value S_lot_of S_reach_mask : FS}  (G : Gs K mg) (c_need_hill : Cal P w K mg base dn 6 "need_hill" s_need_hill P_need_hill S_need_hill) (c_is_deed_value : Cal P w K mg base dn 3 "is_deed_value" s_is_deed_value P_is_deed_value S_is_deed_value) (c_lot_of : Cal P w K mg base dn 1 "lot_of" s_lot_of P_lot_of S_lot_of) (c_reach_mask : Cal P w K mg base dn 3 "reach_mask" s_reach_mask P_reach_mask S_reach_mask) (cdv : Value) (A : Around) (outer : List Env) (s : Shared) (H : Hp) (E : XK) (B : Bs) (hB : B.dn = dn) (hr : Room 6 (A.deeper (envOfC "reach" (defScope s_reach) s.heap.objs.size f cdv))) (hgd : A.guards = some []) : DSs (cxOf CX0 P w K mg base N_reach "reach" (defScope s_reach) f cdv A outer s H E).nox B (defBody s_reach) (T_reach S_need_hill S_is_deed_value S_lot_of S_reach_mask) := by
  subst hB
  have nd := sc_reach.nd
  exact (dss_cons (ds_expr (c_need_hill.de hr hgd (by decide) rfl (da_cons (de_var (i := 0)) da_nil))) (dss_cons (ds_if (dt_not (dt_val (c_is_deed_value.de hr hgd (by decide) rfl (da_cons (de_of_dr (dr_ix (rm1 hr) (dr_var (i := 0)) (dr_of_de de_int))) (da_cons (de_var (i := 1)) da_nil))))) (dss_one ds_never) dss_nil) (dss_one (ds_ret (c_lot_of.de hr hgd (by decide) rfl (da_cons (c_reach_mask.de hr hgd (by decide) rfl (da_cons (de_var (i := 0)) (da_cons (de_var (i := 1)) da_nil))) da_nil))))))
abbrev N_run : List Str := [("hill" : Str), ("water" : Str), ("script" : Str)]
abbrev P_run : List Str := [("hill" : Str), ("water" : Str), ("script" : Str)]
theorem sc_run : FnScope N_run P_run (defScope s_run) := ⟨rfl, rfl, rfl, by decide +kernel, rfl, by decide +kernel, by decide +kernel⟩
def T_run (S_need_water_scripts : FS) (S_need_script : FS) (S_lot_of : FS) (S_done : FS) (S_mask_of : FS) : XS := (sSeq (sDrop (xCall S_need_water_scripts (xCons (xVar 0) (xCons (xVar 1) xNil)))) (sSeq (sDrop (xCall S_need_script (xCons (xFlat (xIx (xVarR 0) (xC (.int 0)))) (xCons (xVar 2) xNil)))) (sRet (xCall S_lot_of (xCons (xCall S_done (xCons (xVar 0) (xCons (xCall S_mask_of (xCons (xVar 1) xNil)) (xCons (xVar 2) xNil)))) xNil)))))
theorem b_run {P : Program} {w : World} {K : PySem.W.Frag} {mg : Str → Option Value} {base : Heap} {dn : Dn} {f : Addr}{ S_need_water_scripts S_need_script S_lot_of S_done S_mask_of : FS}  (G : Gs K mg) (c_need_water_scripts : Cal P w K mg base dn 7 "need_water_scripts" s_need_water_scripts P_need_water_scripts S_need_water_scripts) (c_need_script : Cal P w K mg base dn 5 "need_script" s_need_script P_need_script S_need_script) (c_lot_of : Cal P w K mg base dn 1 "lot_of" s_lot_of P_lot_of S_lot_of) (c_done : Cal P w K mg base dn 3 "done" s_done P_done S_done) (c_mask_of : Cal P w K mg base dn 1 "mask_of" s_mask_of P_mask_of S_mask_of) (cdv : Value) (A : Around) (outer : List Env) (s : Shared) (H : Hp) (E : XK) (B : Bs) (hB : B.dn = dn) (hr : Room 7 (A.deeper (envOfC "run" (defScope s_run) s.heap.objs.size f cdv))) (hgd : A.guards = some []) : DSs (cxOf CX0 P w K mg base N_run "run" (defScope s_run) f cdv A outer s H E).nox B (defBody s_run) (T_run S_need_water_scripts S_need_script S_lot_of S_done S_mask_of) := by
  subst hB
  have nd := sc_run.nd
  exact (dss_cons (ds_expr (c_need_water_scripts.de hr hgd (by decide) rfl (da_cons (de_var (i := 0)) (da_cons (de_var (i := 1)) da_nil)))) (dss_cons (ds_expr (c_need_script.de hr hgd (by decide) rfl (da_cons (de_of_dr (dr_ix (rm1 hr) (dr_var (i := 0)) (dr_of_de de_int))) (da_cons (de_var (i := 2)) da_nil)))) (dss_one (ds_ret (c_lot_of.de hr hgd (by decide) rfl (da_cons (c_done.de hr hgd (by decide) rfl (da_cons (de_var (i := 0)) (da_cons (c_mask_of.de hr hgd (by decide) rfl (da_cons (de_var (i := 1)) da_nil)) (da_cons (de_var (i := 2)) da_nil)))) da_nil))))))
abbrev N_raw_couple : List Str := [("hill" : Str), ("script" : Str), ("wet" : Str), ("dry" : Str)]
abbrev P_raw_couple : List Str := [("hill" : Str), ("script" : Str)]
theorem sc_raw_couple : FnScope N_raw_couple P_raw_couple (defScope s_raw_couple) := ⟨rfl, rfl, rfl, by decide +kernel, rfl, by decide +kernel, by decide +kernel⟩
def T_raw_couple (S_couple_masks : FS) (S_lot_of : FS) : XS := (sSeq (sAsg (xCall S_couple_masks (xCons (xVar 0) (xCons (xVar 1) xNil))) (gTp 2 (gC (gNm 2) (gC (gNm 3) gN0)))) (sRet (xTup (xCons (xCall S_lot_of (xCons (xVar 2) xNil)) (xCons (xCall S_lot_of (xCons (xVar 3) xNil)) xNil)))))
theorem b_raw_couple {P : Program} {w : World} {K : PySem.W.Frag} {mg : Str → Option Value} {base : Heap} {dn : Dn} {f : Addr}{ S_couple_masks S_lot_of : FS}  (G : Gs K mg) (c_couple_masks : Cal P w K mg base dn 3 "couple_masks" s_couple_masks P_couple_masks S_couple_masks) (c_lot_of : Cal P w K mg base dn 1 "lot_of" s_lot_of P_lot_of S_lot_of) (cdv : Value) (A : Around) (outer : List Env) (s : Shared) (H : Hp) (E : XK) (B : Bs) (hB : B.dn = dn) (hr : Room 3 (A.deeper (envOfC "raw_couple" (defScope s_raw_couple) s.heap.objs.size f cdv))) (hgd : A.guards = some []) : DSs (cxOf CX0 P w K mg base N_raw_couple "raw_couple" (defScope s_raw_couple) f cdv A outer s H E).nox B (defBody s_raw_couple) (T_raw_couple S_couple_masks S_lot_of) := by
  subst hB
  have nd := sc_raw_couple.nd
  exact (dss_cons (ds_asg (c_couple_masks.de hr hgd (by decide) rfl (da_cons (de_var (i := 0)) (da_cons (de_var (i := 1)) da_nil))) (dg_tup rfl (dgs_cons (dg_name (i := 2) nd) (dgs_cons (dg_name (i := 3) nd) dgs_nil)))) (dss_one (ds_ret (de_tup (da_cons (c_lot_of.de hr hgd (by decide) rfl (da_cons (de_var (i := 2)) da_nil)) (da_cons (c_lot_of.de hr hgd (by decide) rfl (da_cons (de_var (i := 3)) da_nil)) da_nil))))))
abbrev N_couple_of : List Str := [("hill" : Str), ("script" : Str)]
abbrev P_couple_of : List Str := [("hill" : Str), ("script" : Str)]
theorem sc_couple_of : FnScope N_couple_of P_couple_of (defScope s_couple_of) := ⟨rfl, rfl, rfl, by decide +kernel, rfl, by decide +kernel, by decide +kernel⟩
def T_couple_of (S_need_hill : FS) (S_need_script : FS) (S_raw_couple : FS) : XS := (sSeq (sDrop (xCall S_need_hill (xCons (xVar 0) xNil))) (sSeq (sDrop (xCall S_need_script (xCons (xFlat (xIx (xVarR 0) (xC (.int 0)))) (xCons (xVar 1) xNil)))) (sRet (xCall S_raw_couple (xCons (xVar 0) (xCons (xVar 1) xNil))))))
theorem b_couple_of {P : Program} {w : World} {K : PySem.W.Frag} {mg : Str → Option Value} {base : Heap} {dn : Dn} {f : Addr}{ S_need_hill S_need_script S_raw_couple : FS}  (G : Gs K mg) (c_need_hill : Cal P w K mg base dn 6 "need_hill" s_need_hill P_need_hill S_need_hill) (c_need_script : Cal P w K mg base dn 5 "need_script" s_need_script P_need_script S_need_script) (c_raw_couple : Cal P w K mg base dn 4 "raw_couple" s_raw_couple P_raw_couple S_raw_couple) (cdv : Value) (A : Around) (outer : List Env) (s : Shared) (H : Hp) (E : XK) (B : Bs) (hB : B.dn = dn) (hr : Room 6 (A.deeper (envOfC "couple_of" (defScope s_couple_of) s.heap.objs.size f cdv))) (hgd : A.guards = some []) : DSs (cxOf CX0 P w K mg base N_couple_of "couple_of" (defScope s_couple_of) f cdv A outer s H E).nox B (defBody s_couple_of) (T_couple_of S_need_hill S_need_script S_raw_couple) := by
  subst hB
  have nd := sc_couple_of.nd
  exact (dss_cons (ds_expr (c_need_hill.de hr hgd (by decide) rfl (da_cons (de_var (i := 0)) da_nil))) (dss_cons (ds_expr (c_need_script.de hr hgd (by decide) rfl (da_cons (de_of_dr (dr_ix (rm1 hr) (dr_var (i := 0)) (dr_of_de de_int))) (da_cons (de_var (i := 1)) da_nil)))) (dss_one (ds_ret (c_raw_couple.de hr hgd (by decide) rfl (da_cons (de_var (i := 0)) (da_cons (de_var (i := 1)) da_nil)))))))
abbrev N__law_deck : List Str := [("script" : Str), ("mixed" : Str), ("cell" : Str)]
abbrev P__law_deck : List Str := [("script" : Str)]
theorem sc__law_deck : FnScope N__law_deck P__law_deck (defScope s__law_deck) := ⟨rfl, rfl, rfl, by decide +kernel, rfl, by decide +kernel, by decide +kernel⟩
def T__law_deck : XS := (sSeq (sSet 1 (xC (.int 10891087))) (sSeq (sFor (xSeq (xSl (xVarR 0) xNoPart (xPart (xC (.int 63))))) (gNm 2) (sSet 1 (x2 (cI (fun _ j => 0 < j) fun i j => i % j) (xCB cInt (xCons (x2 cAdd (x2 cAdd (x2 (cI CMul fun i j => i * j) (xVarR 1) (xC (.int 48271))) (x2 (cI (fun _ j => 0 < j) fun i j => i % j) (xCB cInt (xCons (xVarR 2) xNil)) (xC (.int 2147483629)))) (xC (.int 87))) xNil)) (xC (.int 2147483587))))) (sRet (xDisp [(("left" : Str), (xRev (xCB cLst (xCons (xSl (xVarR 0) xNoPart (xPart (xC (.int 63)))) xNil)))), (("mixed" : Str), (xVar 1)), (("draws" : Str), (xC (.int 0)))]))))
theorem b__law_deck {P : Program} {w : World} {K : PySem.W.Frag} {mg : Str → Option Value} {base : Heap} {dn : Dn} {f : Addr}  (G : Gs K mg) (cdv : Value) (A : Around) (outer : List Env) (s : Shared) (H : Hp) (E : XK) (B : Bs) (hB : B.dn = dn) (hr : Room 0 (A.deeper (envOfC "_law_deck" (defScope s__law_deck) s.heap.objs.size f cdv))) (hgd : A.guards = some []) : DSs (cxOf CX0 P w K mg base N__law_deck "_law_deck" (defScope s__law_deck) f cdv A outer s H E).nox B (defBody s__law_deck) (T__law_deck) := by
  subst hB
  have nd := sc__law_deck.nd
  exact (dss_cons (ds_set (i := 1) nd de_int) (dss_cons (ds_for (ps_for PassesOwn.never rfl (dif_seq (de_sl (dr_var (i := 0)) do_none (do_some (dr_of_de de_int)))) (dg_name (i := 2) nd) (dss_one (ds_set (i := 1) nd (de_op op_mod ok_I (dr_of_de (de_cb ok_int (pe_callTy call_int1 (by rfl) G.f_int boot_int (pa_sz (db_cons (dr_of_de (de_op op_addAll ok_Add (dr_of_de (de_op op_addAll ok_Add (dr_of_de (de_op op_mul ok_I (dr_var (i := 1)) (dr_of_de de_int))) (dr_of_de (de_op op_mod ok_I (dr_of_de (de_cb ok_int (pe_callTy call_int1 (by rfl) G.f_int boot_int (pa_sz (db_cons (dr_var (i := 2)) db_nil))))) (dr_of_de de_int))))) (dr_of_de de_int))) db_nil))))) (dr_of_de de_int)))))) (dss_one (ds_ret (de_disp (pps_cons pe_str (de_rev (dr_of_de (de_cb ok_lst (pe_callTy call_list_of (by rfl) G.f_list boot_list (pa_sz (db_cons (dr_of_de (de_sl (dr_var (i := 0)) do_none (do_some (dr_of_de de_int)))) db_nil)))))) (pps_cons pe_str (de_var (i := 1)) (pps_cons pe_str de_int pps_nil))) (show List.Nodup [("left" : Str), ("mixed" : Str), ("draws" : Str)] by decide) (show 3 ≤ 15 by decide) rfl rfl (by simp) (show 3 ≤ 15 by decide))))))
abbrev N__law_draw : List Str := [("deck" : Str), ("many" : Str), ("figure" : Str), ("cell" : Str)]
abbrev P__law_draw : List Str := [("deck" : Str), ("many" : Str)]
theorem sc__law_draw : FnScope N__law_draw P__law_draw (defScope s__law_draw) := ⟨rfl, rfl, rfl, by decide +kernel, rfl, by decide +kernel, by decide +kernel⟩
abbrev dkn : Str × Str × Str := ("left", "mixed", "draws")
theorem ok__law_draw {P : Program} {w : World} {K : PySem.W.Frag} {mg : Str → Option Value} {base : Heap} {tb : List (Addr × Str)} {f : Addr} {fd : FuncData} (F : FnP K "_law_draw" s__law_draw f fd) (G : Gs K mg) : FnOk P w K mg base CX0 1 f fd P__law_draw (spOf K ⟨dkn, tb⟩ S_draw) := by
  have nd := sc__law_draw.nd
  exact F.ok sc__law_draw (fun vs H Q E ⟨F0, da, cs, fp, K', _, _, _, crs, _, _, hS, _⟩ => by rw [crs.length]; exact s_draw_len cs K' hS) (fun cdv A outer s H vs Q E hr h => ⟨t_draw K "left" "mixed" "draws" 61473 2147483629 39373 87 2147483647 52713 87 2147483587 40692 2147483563, (pss_cons (ps_dput (rm1 hr) (pe_var (i := 0) rfl (by first | exact Or.inl rfl | exact Or.inr (Or.inl rfl) | exact Or.inr (Or.inr rfl))) pe_str (pe_op op_add (pe_dget (rm1 hr) (pe_var (i := 0) rfl (by first | exact Or.inl rfl | exact Or.inr (Or.inl rfl) | exact Or.inr (Or.inr rfl))) pe_str (by intro _ _; rfl)) pe_int) rfl) (pss_cons (ps_set (i := 2) nd rfl (by first | exact Or.inl rfl | exact Or.inr rfl) (pe_op op_add (pe_dget (rm1 hr) (pe_var (i := 0) rfl (by first | exact Or.inl rfl | exact Or.inr (Or.inl rfl) | exact Or.inr (Or.inr rfl))) pe_str (by intro _ _; rfl)) (pe_op op_mul pe_int (pe_dget (rm1 hr) (pe_var (i := 0) rfl (by first | exact Or.inl rfl | exact Or.inr (Or.inl rfl) | exact Or.inr (Or.inr rfl))) pe_str (by intro _ _; rfl))))) (pss_cons (ps_if (pt_cmpR (op_neD (rm64 hr)) (pe_dget (rm1 hr) (pe_var (i := 0) rfl (by first | exact Or.inl rfl | exact Or.inr (Or.inl rfl) | exact Or.inr (Or.inr rfl))) pe_str (by intro _ _; rfl)) (pe_lst pa_nil) (by rfl)) (pss_cons (ps_set (i := 3) nd rfl (by first | exact Or.inl rfl | exact Or.inr rfl) (pe_bm0 PySem.F.plainAttrs_list PySem.F.slot_list_pop PySem.F.type_list_pop mt_pop (pe_dget (rm1 hr) (pe_var (i := 0) rfl (by first | exact Or.inl rfl | exact Or.inr (Or.inl rfl) | exact Or.inr (Or.inr rfl))) pe_str (by intro _ _; rfl)))) (pss_cons (ps_if (pt_cmpR op_ge (pe_var (i := 3) rfl (by first | exact Or.inl rfl | exact Or.inr (Or.inl rfl) | exact Or.inr (Or.inr rfl))) (pe_op op_pow pe_int pe_int) (by rfl)) (pss_cons (ps_expr (pe_bm PySem.F.plainAttrs_list PySem.F.slot_list_append PySem.F.type_list_append mt_append (pe_dget (rm1 hr) (pe_var (i := 0) rfl (by first | exact Or.inl rfl | exact Or.inr (Or.inl rfl) | exact Or.inr (Or.inr rfl))) pe_str (by intro _ _; rfl)) (pa_cons (pe_op op_fdivW (pe_var (i := 3) rfl (by first | exact Or.inl rfl | exact Or.inr (Or.inl rfl) | exact Or.inr (Or.inr rfl))) (pe_callB (call_max2 rfl) (by rfl) G.f_max boot_max (pa_cons pe_int (pa_cons (pe_var (i := 1) rfl (by first | exact Or.inl rfl | exact Or.inr (Or.inl rfl) | exact Or.inr (Or.inr rfl))) pa_nil)))) pa_nil))) (pss_one (ps_ret (pe_op op_mod (pe_callTy call_int1 (by rfl) G.f_int boot_int (pa_cons (pe_var (i := 3) rfl (by first | exact Or.inl rfl | exact Or.inr (Or.inl rfl) | exact Or.inr (Or.inr rfl))) pa_nil)) (pe_var (i := 1) rfl (by first | exact Or.inl rfl | exact Or.inr (Or.inl rfl) | exact Or.inr (Or.inr rfl))))))) pss_nil) (pss_one (ps_set (i := 2) nd rfl (by first | exact Or.inl rfl | exact Or.inr rfl) (pe_op op_add (pe_var (i := 2) rfl (by first | exact Or.inl rfl | exact Or.inr (Or.inl rfl) | exact Or.inr (Or.inr rfl))) (pe_op op_mod (pe_callTy call_int1 (by rfl) G.f_int boot_int (pa_cons (pe_var (i := 3) rfl (by first | exact Or.inl rfl | exact Or.inr (Or.inl rfl) | exact Or.inr (Or.inr rfl))) pa_nil)) pe_int)))))) pss_nil) (pss_cons (ps_set (i := 2) nd rfl (by first | exact Or.inl rfl | exact Or.inr rfl) (pe_op op_mod (pe_callTy call_int1 (by rfl) G.f_int boot_int (pa_cons (pe_op op_add (pe_op op_mul (pe_var (i := 2) rfl (by first | exact Or.inl rfl | exact Or.inr (Or.inl rfl) | exact Or.inr (Or.inr rfl))) pe_int) pe_int) pa_nil)) pe_int)) (pss_cons (ps_set (i := 2) nd rfl (by first | exact Or.inl rfl | exact Or.inr rfl) (pe_op op_mod (pe_callTy call_int1 (by rfl) G.f_int boot_int (pa_cons (pe_op op_add (pe_op op_add (pe_op op_mul (pe_var (i := 2) rfl (by first | exact Or.inl rfl | exact Or.inr (Or.inl rfl) | exact Or.inr (Or.inr rfl))) (pe_var (i := 2) rfl (by first | exact Or.inl rfl | exact Or.inr (Or.inl rfl) | exact Or.inr (Or.inr rfl)))) (pe_op op_mul pe_int (pe_dget (rm1 hr) (pe_var (i := 0) rfl (by first | exact Or.inl rfl | exact Or.inr (Or.inl rfl) | exact Or.inr (Or.inr rfl))) pe_str (by intro _ _; rfl)))) pe_int) pa_nil)) pe_int)) (pss_cons (ps_set (i := 2) nd rfl (by first | exact Or.inl rfl | exact Or.inr rfl) (pe_op op_mod (pe_callTy call_int1 (by rfl) G.f_int boot_int (pa_cons (pe_op op_mul (pe_var (i := 2) rfl (by first | exact Or.inl rfl | exact Or.inr (Or.inl rfl) | exact Or.inr (Or.inr rfl))) pe_int) pa_nil)) pe_int)) (pss_one (ps_ret (pe_op op_mod (pe_callTy call_int1 (by rfl) G.f_int boot_int (pa_cons (pe_op op_fdivW (pe_var (i := 2) rfl (by first | exact Or.inl rfl | exact Or.inr (Or.inl rfl) | exact Or.inr (Or.inr rfl))) pe_int) pa_nil)) (pe_var (i := 1) rfl (by first | exact Or.inl rfl | exact Or.inr (Or.inl rfl) | exact Or.inr (Or.inr rfl)))))))))))), draw_main (by decide) (by decide) (by decide) (by unfold drawB; decide) tb vs H Q h⟩)
abbrev N__law_pick : List Str := [("deck" : Str), ("some" : Str)]
abbrev P__law_pick : List Str := [("deck" : Str), ("some" : Str)]
theorem sc__law_pick : FnScope N__law_pick P__law_pick (defScope s__law_pick) := ⟨rfl, rfl, rfl, by decide +kernel, rfl, by decide +kernel, by decide +kernel⟩
def T__law_pick (S__law_draw : FS) : XS := (sRet (xFlat (xIx (xVarR 1) (xCall S__law_draw (xCons (xVar 0) (xCons (xCB cLen (xCons (xVarR 1) xNil)) xNil))))))
theorem b__law_pick {P : Program} {w : World} {K : PySem.W.Frag} {mg : Str → Option Value} {base : Heap} {dn : Dn} {f : Addr}{ S__law_draw : FS}  (G : Gs K mg) (c__law_draw : Cal P w K mg base dn 1 "_law_draw" s__law_draw P__law_draw S__law_draw) (cdv : Value) (A : Around) (outer : List Env) (s : Shared) (H : Hp) (E : XK) (B : Bs) (hB : B.dn = dn) (hr : Room 1 (A.deeper (envOfC "_law_pick" (defScope s__law_pick) s.heap.objs.size f cdv))) (hgd : A.guards = some []) : DSs (cxOf CX0 P w K mg base N__law_pick "_law_pick" (defScope s__law_pick) f cdv A outer s H E).nox B (defBody s__law_pick) (T__law_pick S__law_draw) := by
  subst hB
  have nd := sc__law_pick.nd
  exact (dss_one (ds_ret (de_of_dr (dr_ix (rm1 hr) (dr_var (i := 1)) (dr_of_de (c__law_draw.de hr hgd (by decide) rfl (da_cons (de_var (i := 0)) (da_cons (de_cb ok_len (pe_callB call_len (by rfl) G.f_len boot_len (pa_sz (db_cons (dr_var (i := 1)) db_nil)))) da_nil))))))))
abbrev N__law_shuffled : List Str := [("deck" : Str), ("n" : Str), ("order" : Str), ("turn" : Str)]
abbrev P__law_shuffled : List Str := [("deck" : Str), ("n" : Str)]
theorem sc__law_shuffled : FnScope N__law_shuffled P__law_shuffled (defScope s__law_shuffled) := ⟨rfl, rfl, rfl, by decide +kernel, rfl, by decide +kernel, by decide +kernel⟩
def T__law_shuffled (S__law_draw : FS) : XS := (sSeq (sSet 2 (xRgL1 (xVarR 1))) (sSeq (sFor (xRange1 (xCons (xVarR 1) xNil)) (gNm 3) (sAppPop 2 (xCall S__law_draw (xCons (xVar 0) (xCons (xVar 1) xNil))))) (sRetV 2)))
theorem b__law_shuffled {P : Program} {w : World} {K : PySem.W.Frag} {mg : Str → Option Value} {base : Heap} {dn : Dn} {f : Addr}{ S__law_draw : FS}  (G : Gs K mg) (c__law_draw : Cal P w K mg base dn 1 "_law_draw" s__law_draw P__law_draw S__law_draw) (cdv : Value) (A : Around) (outer : List Env) (s : Shared) (H : Hp) (E : XK) (B : Bs) (hB : B.dn = dn) (hr : Room 1 (A.deeper (envOfC "_law_shuffled" (defScope s__law_shuffled) s.heap.objs.size f cdv))) (hgd : A.guards = some []) : DSs (cxOf CX0 P w K mg base N__law_shuffled "_law_shuffled" (defScope s__law_shuffled) f cdv A outer s H E).nox B (defBody s__law_shuffled) (T__law_shuffled S__law_draw) := by
  subst hB
  have nd := sc__law_shuffled.nd
  exact (dss_cons (ds_set (i := 2) nd (de_rgL1 (pe_listRg rfl (by rfl) G.f_list (prg_1 (by rfl) G.f_range (dr_var (i := 1)))))) (dss_cons (ds_for (ps_for PassesOwn.never rfl (dif_range1 (pi_range1 rfl G.f_range (db_cons (dr_var (i := 1)) db_nil))) (dg_name (i := 3) nd) (dss_one (ds_appPop (ps_expr (pe_bm PySem.F.plainAttrs_list PySem.F.slot_list_append PySem.F.type_list_append mt_append (pe_var (i := 2) rfl (by first | exact Or.inl rfl | exact Or.inr (Or.inl rfl) | exact Or.inr (Or.inr rfl))) (pa_cons (pe_bm PySem.F.plainAttrs_list PySem.F.slot_list_pop PySem.F.type_list_pop mt_popAt (pe_var (i := 2) rfl (by first | exact Or.inl rfl | exact Or.inr (Or.inl rfl) | exact Or.inr (Or.inr rfl))) (pa_cons (c__law_draw.de hr hgd (by decide) rfl (da_cons (de_var (i := 0)) (da_cons (de_var (i := 1)) da_nil))) pa_nil)) pa_nil))))))) (dss_one (ds_retv (i := 2) (ps_ret (pe_var rfl (by first | exact Or.inl rfl | exact Or.inr (Or.inl rfl) | exact Or.inr (Or.inr rfl))))))))
abbrev N__law_closed : List Str := [("n" : Str), ("pairs" : Str), ("rows" : Str), ("a" : Str), ("b" : Str), ("c" : Str), ("found" : Str), ("at" : Str), ("to" : Str), ("one" : Str), ("other" : Str)]
abbrev P__law_closed : List Str := [("n" : Str), ("pairs" : Str)]
theorem sc__law_closed : FnScope N__law_closed P__law_closed (defScope s__law_closed) := ⟨rfl, rfl, rfl, by decide +kernel, rfl, by decide +kernel, by decide +kernel⟩
def T__law_closed : XS := (sSeq (sSet 2 (xLC (xRange1 (xCons (xVarR 0) xNil)) (gNm 7) uYes (xLC (xRange1 (xCons (xVarR 0) xNil)) (gNm 8) uYes (x2 cEq (xVarR 7) (xVarR 8)) [8]) [7])) (sSeq (sFz [1] (sFor (xSeq (xVar 1)) (gTp 2 (gC (gNm 3) (gC (gNm 4) gN0))) (sSetIx2 2 (xVarR 3) (xVarR 4) (xC (.bool true))))) (sSeq (sFor (xRange1 (xCons (xVarR 0) xNil)) (gNm 5) (sFor (xRange1 (xCons (xVarR 0) xNil)) (gNm 3) (sIf (tTru (xIx (xIx (xVarR 2) (xVarR 3)) (xVarR 5))) (sSetIx 2 (xVarR 3) (xLC (xZip (xCons (xIx (xVarR 2) (xVarR 3)) (xCons (xIx (xVarR 2) (xVarR 5)) xNil))) (gTp 2 (gC (gNm 9) (gC (gNm 10) gN0))) uYes (xOr (xVar 9) (xVar 10)) [9, 10])) sNext))) (sSeq (sSet 6 (xLst xNil)) (sSeq (sFor (xRange1 (xCons (xVarR 0) xNil)) (gNm 3) (sExt 6 (xLC (xRange1 (xCons (xVarR 0) xNil)) (gNm 8) (tAndX (tTru (xIx (xIx (xVarR 2) (xVarR 3)) (xVarR 8))) (tBl (x2 cNe (xVarR 8) (xVarR 3)))) (xTup (xCons (xVar 3) (xCons (xVar 8) xNil))) [8]))) (sRet (xTup (xCons (xVar 0) (xCons (xCB cTup (xCons (xVarR 6) xNil)) xNil)))))))))
theorem b__law_closed {P : Program} {w : World} {K : PySem.W.Frag} {mg : Str → Option Value} {base : Heap} {dn : Dn} {f : Addr}  (G : Gs K mg) (cdv : Value) (A : Around) (outer : List Env) (s : Shared) (H : Hp) (E : XK) (B : Bs) (hB : B.dn = dn) (hr : Room 0 (A.deeper (envOfC "_law_closed" (defScope s__law_closed) s.heap.objs.size f cdv))) (hgd : A.guards = some []) : DSs (cxOf CX0 P w K mg base N__law_closed "_law_closed" (defScope s__law_closed) f cdv A outer s H E).nox B (defBody s__law_closed) (T__law_closed) := by
  subst hB
  have nd := sc__law_closed.nd
  exact (dss_cons (ds_set (i := 2) nd (de_lc (pe_lc (own := [(("at" : Str), 7)]) rfl nd (dib_of (dif_range1 (pi_range1 rfl G.f_range (db_cons (dr_var (i := 0)) db_nil)))) (blkOk_by (by kernel_rfl)) (fun _ _ _ _ _ => (dg_name (i := 7) nd)) (fun _ _ _ _ _ => dts_nil) (fun _ _ _ _ _ => (de_lc (pe_lc (own := [(("to" : Str), 8)]) rfl nd (dib_of (dif_range1 (pi_range1 rfl G.f_range (db_cons (dr_var (i := 0)) db_nil)))) (blkOk_by (by kernel_rfl)) (fun _ _ _ _ _ => (dg_name (i := 8) nd)) (fun _ _ _ _ _ => dts_nil) (fun _ _ _ _ _ => (de_cmp (op_eqD (rm64 hr)) (by rfl) ok_Eq (dr_var (i := 7)) (dr_var (i := 8)))))))))) (dss_cons (ds_fz [1] (ds_for (ps_for PassesOwn.never rfl (dif_seq (de_var (i := 1))) (dg_tup rfl (dgs_cons (dg_name (i := 3) nd) (dgs_cons (dg_name (i := 4) nd) dgs_nil))) (dss_one (ds_setIx2 (ps_asg de_bl (pg_sub (pe_ix (ix_all (rm1 hr)) (pe_var (i := 2) rfl (by first | exact Or.inl rfl | exact Or.inr (Or.inl rfl) | exact Or.inr (Or.inr rfl))) (dr_var (i := 3)) (by intro _ _; rfl)) (dr_var (i := 4)) set_list))))))) (dss_cons (ds_for (ps_for PassesOwn.never rfl (dif_range1 (pi_range1 rfl G.f_range (db_cons (dr_var (i := 0)) db_nil))) (dg_name (i := 5) nd) (dss_one (ds_for (ps_for PassesOwn.never rfl (dif_range1 (pi_range1 rfl G.f_range (db_cons (dr_var (i := 0)) db_nil))) (dg_name (i := 3) nd) (dss_one (ds_if (dt_truth (dr_ix (rm1 hr) (dr_ix (rm1 hr) (dr_var (i := 2)) (dr_var (i := 3))) (dr_var (i := 5)))) (dss_one (ds_setIx (ps_asg (de_lc (pe_lc (own := [(("one" : Str), 9), (("other" : Str), 10)]) rfl nd (dib_zip (pi_zipB rfl G.f_zip (db_cons (dr_ix (rm1 hr) (dr_var (i := 2)) (dr_var (i := 3))) (db_cons (dr_ix (rm1 hr) (dr_var (i := 2)) (dr_var (i := 5))) db_nil)))) (blkOk_by (by kernel_rfl)) (fun _ _ _ _ _ => (dg_tup rfl (dgs_cons (dg_name (i := 9) nd) (dgs_cons (dg_name (i := 10) nd) dgs_nil)))) (fun _ _ _ _ _ => dts_nil) (fun _ _ _ _ _ => (de_or (de_var (i := 9)) (de_one (de_var (i := 10))))))) (pg_sub (pe_var (i := 2) rfl (by first | exact Or.inl rfl | exact Or.inr (Or.inl rfl) | exact Or.inr (Or.inr rfl))) (dr_var (i := 3)) set_list)))) dss_nil))))))) (dss_cons (ds_set (i := 6) nd (de_lst da_nil)) (dss_cons (ds_for (ps_for PassesOwn.never rfl (dif_range1 (pi_range1 rfl G.f_range (db_cons (dr_var (i := 0)) db_nil))) (dg_name (i := 3) nd) (dss_one (ds_ext (ps_expr (pe_bm PySem.F.plainAttrs_list PySem.F.slot_list_extend PySem.F.type_list_extend mt_extend (pe_var (i := 6) rfl (by first | exact Or.inl rfl | exact Or.inr (Or.inl rfl) | exact Or.inr (Or.inr rfl))) (pa_cons (de_lc (pe_lc (own := [(("to" : Str), 8)]) rfl nd (dib_of (dif_range1 (pi_range1 rfl G.f_range (db_cons (dr_var (i := 0)) db_nil)))) (blkOk_by (by kernel_rfl)) (fun _ _ _ _ _ => (dg_name (i := 8) nd)) (fun _ _ _ _ _ => (dts_one (dt_w (dw_and (dt_truth (dr_ix (rm1 hr) (dr_ix (rm1 hr) (dr_var (i := 2)) (dr_var (i := 3))) (dr_var (i := 8)))) (dw_and1 (dt_cmp (op_neD (rm64 hr)) (by rfl) ok_Ne (dr_var (i := 8)) (dr_var (i := 3)))))))) (fun _ _ _ _ _ => (de_tup (da_cons (de_var (i := 3)) (da_cons (de_var (i := 8)) da_nil)))))) pa_nil))))))) (dss_one (ds_ret (de_tup (da_cons (de_var (i := 0)) (da_cons (de_cb ok_tup (pe_callTy call_tuple_of (by rfl) G.f_tuple boot_tuple (pa_sz (db_cons (dr_var (i := 6)) db_nil)))) da_nil))))))))))
abbrev N__law_hill : List Str := [("deck" : Str), ("most" : Str), ("n" : Str), ("way" : Str), ("pairs" : Str), ("at" : Str), ("pair" : Str), ("names" : Str), ("to" : Str), ("step" : Str), ("turn" : Str), ("a" : Str), ("b" : Str)]
abbrev P__law_hill : List Str := [("deck" : Str), ("most" : Str)]
theorem sc__law_hill : FnScope N__law_hill P__law_hill (defScope s__law_hill) := ⟨rfl, rfl, rfl, by decide +kernel, rfl, by decide +kernel, by decide +kernel⟩
def T__law_hill (S__law_draw : FS) (S__law_shuffled : FS) (S__law_closed : FS) : XS := (sSeq (sPar [2, 3, 4] (xCons (x2 cAdd (xC (.int 1)) (xCall S__law_draw (xCons (xVar 0) (xCons (xVar 1) xNil)))) (xCons (xCall S__law_draw (xCons (xVar 0) (xCons (xC (.int 9)) xNil))) (xCons (xLst xNil) xNil)))) (sSeq (sFor (xRange2 (xCons (xC (.int 1)) (xCons (xVarR 2) xNil))) (gNm 5) (sSeq (sIf (tBl (x2 cEq (xVarR 3) (xC (.int 1)))) (sApp 4 (xTup (xCons (x2 (cI0 fun i j => i - j) (xVarR 5) (xC (.int 1))) (xCons (xVar 5) xNil)))) sNext) (sSeq (sIf (tOrX (tBl (x2 cEq (xVarR 3) (xC (.int 2)))) (tBl (x2 cEq (xVarR 3) (xC (.int 3))))) (sSeq (sSet 6 (xTup (xCons (xVar 5) (xCons (xCall S__law_draw (xCons (xVar 0) (xCons (xVar 5) xNil))) xNil)))) (sApp 4 (xIf (tBl (x2 cEq (xVarR 3) (xC (.int 2)))) (xVar 6) (xRev (xVarR 6))))) sNext) (sSeq (sIf (tOrX (tBl (x2 cEq (xVarR 3) (xC (.int 4)))) (tOrX (tBl (x2 cEq (xVarR 3) (xC (.int 5)))) (tBl (x2 cEq (xVarR 3) (xC (.int 8)))))) (sExt 4 (xLC (xRange1 (xCons (xVarR 5) xNil)) (gNm 8) (tBl (x2 cEq (xCall S__law_draw (xCons (xVar 0) (xCons (xIf (tBl (x2 cEq (xVarR 3) (xC (.int 8)))) (xC (.int 4)) (xC (.int 2))) xNil))) (xC (.int 0)))) (xTup (xCons (xVar 8) (xCons (xVar 5) xNil))) [8])) sNext) (sSeq (sIf (tAndX (tBl (x2 cEq (xVarR 3) (xC (.int 6)))) (tBl (x2 (cB0 fun i j => decide (j ≤ i)) (xVarR 5) (x2 (cI CDivW fun i j => i / j) (xVarR 2) (xC (.int 2)))))) (sExt 4 (xLC (xRange1 (xCons (x2 (cI CDivW fun i j => i / j) (xVarR 2) (xC (.int 2))) xNil)) (gNm 8) (tBl (x2 cEq (xCall S__law_draw (xCons (xVar 0) (xCons (xC (.int 2)) xNil))) (xC (.int 0)))) (xTup (xCons (xVar 8) (xCons (xVar 5) xNil))) [8])) sNext) (sIf (tBl (x2 cEq (xVarR 3) (xC (.int 7)))) (sExt 4 (xLC (xSeq (xLst (xCons (xC (.int 1)) (xCons (xC (.int 2)) xNil)))) (gNm 9) (tAndX (tBl (x2 (cB0 fun i j => decide (j ≤ i)) (xVarR 5) (xVarR 9))) (tOrX (tBl (x2 cEq (xVarR 9) (xC (.int 2)))) (tBl (x2 cEq (x2 (cI (fun _ j => 0 < j) fun i j => i % j) (xCB cInt (xCons (xVarR 5) xNil)) (xC (.int 2))) (xC (.int 1)))))) (xTup (xCons (x2 (cI0 fun i j => i - j) (xVarR 5) (xVarR 9)) (xCons (xVar 5) xNil))) [9])) sNext)))))) (sSeq (sIf (tBl (x2 cEq (xVarR 3) (xC (.int 5)))) (sExt 4 (xLC (xRange1 (xCons (x2 cAdd (xC (.int 1)) (x2 (cI CDivW fun i j => i / j) (xVarR 2) (xC (.int 4)))) xNil)) (gNm 10) uYes (xTup (xCons (xCall S__law_draw (xCons (xVar 0) (xCons (xVar 2) xNil))) (xCons (xCall S__law_draw (xCons (xVar 0) (xCons (xVar 2) xNil))) xNil))) [10])) sNext) (sSeq (sSet 7 (xCall S__law_shuffled (xCons (xVar 0) (xCons (xVar 2) xNil)))) (sRet (xCall S__law_closed (xCons (xVar 2) (xCons (xLC (xSeq (xVarR 4)) (gTp 2 (gC (gNm 11) (gC (gNm 12) gN0))) (tBl (x2 cNe (xVarR 11) (xVarR 12))) (xTup (xCons (xFlat (xIx (xVarR 7) (xVarR 11))) (xCons (xFlat (xIx (xVarR 7) (xVarR 12))) xNil))) [11, 12]) xNil))))))))
theorem b__law_hill {P : Program} {w : World} {K : PySem.W.Frag} {mg : Str → Option Value} {base : Heap} {dn : Dn} {f : Addr}{ S__law_draw S__law_shuffled S__law_closed : FS}  (G : Gs K mg) (c__law_draw : Cal P w K mg base dn 1 "_law_draw" s__law_draw P__law_draw S__law_draw) (c__law_shuffled : Cal P w K mg base dn 2 "_law_shuffled" s__law_shuffled P__law_shuffled S__law_shuffled) (c__law_closed : Cal P w K mg base dn 1 "_law_closed" s__law_closed P__law_closed S__law_closed) (cdv : Value) (A : Around) (outer : List Env) (s : Shared) (H : Hp) (E : XK) (B : Bs) (hB : B.dn = dn) (hr : Room 2 (A.deeper (envOfC "_law_hill" (defScope s__law_hill) s.heap.objs.size f cdv))) (hgd : A.guards = some []) : DSs (cxOf CX0 P w K mg base N__law_hill "_law_hill" (defScope s__law_hill) f cdv A outer s H E).nox B (defBody s__law_hill) (T__law_hill S__law_draw S__law_shuffled S__law_closed) := by
  subst hB
  have nd := sc__law_hill.nd
  exact (dss_cons (ds_parN (is := [2, 3, 4]) (n := 3) (ps_asg (pe_tup (da_cons (de_op op_addAll ok_Add (dr_of_de de_int) (dr_of_de (c__law_draw.de hr hgd (by decide) rfl (da_cons (de_var (i := 0)) (da_cons (de_var (i := 1)) da_nil))))) (da_cons (c__law_draw.de hr hgd (by decide) rfl (da_cons (de_var (i := 0)) (da_cons de_int da_nil))) (da_cons (de_lst da_nil) da_nil)))) (pg_tup rfl (pgs_cons (pg_name (i := 2) nd rfl (by first | exact Or.inl rfl | exact Or.inr rfl)) (pgs_cons (pg_name (i := 3) nd rfl (by first | exact Or.inl rfl | exact Or.inr rfl)) (pgs_cons (pg_name (i := 4) nd rfl (by first | exact Or.inl rfl | exact Or.inr rfl)) pgs_nil)))))) (dss_cons (ds_for (ps_for PassesOwn.never rfl (dif_range2 (pi_range2 rfl G.f_range (db_cons (dr_of_de de_int) (db_cons (dr_var (i := 2)) db_nil)))) (dg_name (i := 5) nd) (dss_cons (ds_if (dt_cmp (op_eqD (rm64 hr)) (by rfl) ok_Eq (dr_var (i := 3)) (dr_of_de de_int)) (dss_one (ds_app (ps_expr (pe_bm PySem.F.plainAttrs_list PySem.F.slot_list_append PySem.F.type_list_append mt_append (pe_var (i := 4) rfl (by first | exact Or.inl rfl | exact Or.inr (Or.inl rfl) | exact Or.inr (Or.inr rfl))) (pa_cons (de_tup (da_cons (de_op op_sub ok_I0 (dr_var (i := 5)) (dr_of_de de_int)) (da_cons (de_var (i := 5)) da_nil))) pa_nil))))) dss_nil) (dss_cons (ds_if (dt_w (dw_or (dt_cmp (op_eqD (rm64 hr)) (by rfl) ok_Eq (dr_var (i := 3)) (dr_of_de de_int)) (dw_or1 (dt_cmp (op_eqD (rm64 hr)) (by rfl) ok_Eq (dr_var (i := 3)) (dr_of_de de_int))))) (dss_cons (ds_set (i := 6) nd (de_tup (da_cons (de_var (i := 5)) (da_cons (c__law_draw.de hr hgd (by decide) rfl (da_cons (de_var (i := 0)) (da_cons (de_var (i := 5)) da_nil))) da_nil)))) (dss_one (ds_app (ps_expr (pe_bm PySem.F.plainAttrs_list PySem.F.slot_list_append PySem.F.type_list_append mt_append (pe_var (i := 4) rfl (by first | exact Or.inl rfl | exact Or.inr (Or.inl rfl) | exact Or.inr (Or.inr rfl))) (pa_cons (de_if (dt_cmp (op_eqD (rm64 hr)) (by rfl) ok_Eq (dr_var (i := 3)) (dr_of_de de_int)) (de_var (i := 6)) (de_rev (dr_var (i := 6)))) pa_nil)))))) dss_nil) (dss_cons (ds_if (dt_w (dw_or (dt_cmp (op_eqD (rm64 hr)) (by rfl) ok_Eq (dr_var (i := 3)) (dr_of_de de_int)) (dw_or (dt_cmp (op_eqD (rm64 hr)) (by rfl) ok_Eq (dr_var (i := 3)) (dr_of_de de_int)) (dw_or1 (dt_cmp (op_eqD (rm64 hr)) (by rfl) ok_Eq (dr_var (i := 3)) (dr_of_de de_int)))))) (dss_one (ds_ext (ps_expr (pe_bm PySem.F.plainAttrs_list PySem.F.slot_list_extend PySem.F.type_list_extend mt_extend (pe_var (i := 4) rfl (by first | exact Or.inl rfl | exact Or.inr (Or.inl rfl) | exact Or.inr (Or.inr rfl))) (pa_cons (de_lc (pe_lc (own := [(("to" : Str), 8)]) rfl nd (dib_of (dif_range1 (pi_range1 rfl G.f_range (db_cons (dr_var (i := 5)) db_nil)))) (blkOk_by (by kernel_rfl)) (fun _ _ _ _ _ => (dg_name (i := 8) nd)) (fun _ _ _ _ _ => (dts_one (dt_cmp (op_eqD (rm64 hr)) (by rfl) ok_Eq (dr_of_de (c__law_draw.de hr hgd (by decide) rfl (da_cons (de_var (i := 0)) (da_cons (de_if (dt_cmp (op_eqD (rm64 hr)) (by rfl) ok_Eq (dr_var (i := 3)) (dr_of_de de_int)) de_int de_int) da_nil)))) (dr_of_de de_int)))) (fun _ _ _ _ _ => (de_tup (da_cons (de_var (i := 8)) (da_cons (de_var (i := 5)) da_nil)))))) pa_nil))))) dss_nil) (dss_cons (ds_if (dt_w (dw_and (dt_cmp (op_eqD (rm64 hr)) (by rfl) ok_Eq (dr_var (i := 3)) (dr_of_de de_int)) (dw_and1 (dt_cmp op_ge (by rfl) ok_B0 (dr_var (i := 5)) (dr_of_de (de_op op_fdivW ok_I (dr_var (i := 2)) (dr_of_de de_int))))))) (dss_one (ds_ext (ps_expr (pe_bm PySem.F.plainAttrs_list PySem.F.slot_list_extend PySem.F.type_list_extend mt_extend (pe_var (i := 4) rfl (by first | exact Or.inl rfl | exact Or.inr (Or.inl rfl) | exact Or.inr (Or.inr rfl))) (pa_cons (de_lc (pe_lc (own := [(("to" : Str), 8)]) rfl nd (dib_of (dif_range1 (pi_range1 rfl G.f_range (db_cons (dr_of_de (de_op op_fdivW ok_I (dr_var (i := 2)) (dr_of_de de_int))) db_nil)))) (blkOk_by (by kernel_rfl)) (fun _ _ _ _ _ => (dg_name (i := 8) nd)) (fun _ _ _ _ _ => (dts_one (dt_cmp (op_eqD (rm64 hr)) (by rfl) ok_Eq (dr_of_de (c__law_draw.de hr hgd (by decide) rfl (da_cons (de_var (i := 0)) (da_cons de_int da_nil)))) (dr_of_de de_int)))) (fun _ _ _ _ _ => (de_tup (da_cons (de_var (i := 8)) (da_cons (de_var (i := 5)) da_nil)))))) pa_nil))))) dss_nil) (dss_one (ds_if (dt_cmp (op_eqD (rm64 hr)) (by rfl) ok_Eq (dr_var (i := 3)) (dr_of_de de_int)) (dss_one (ds_ext (ps_expr (pe_bm PySem.F.plainAttrs_list PySem.F.slot_list_extend PySem.F.type_list_extend mt_extend (pe_var (i := 4) rfl (by first | exact Or.inl rfl | exact Or.inr (Or.inl rfl) | exact Or.inr (Or.inr rfl))) (pa_cons (de_lc (pe_lc (own := [(("step" : Str), 9)]) rfl nd (dib_seq (dr_of_de (de_lst (da_cons de_int (da_cons de_int da_nil))))) (blkOk_by (by kernel_rfl)) (fun _ _ _ _ _ => (dg_name (i := 9) nd)) (fun _ _ _ _ _ => (dts_one (dt_w (dw_and (dt_cmp op_ge (by rfl) ok_B0 (dr_var (i := 5)) (dr_var (i := 9))) (dw_and1 (dt_w (dw_or (dt_cmp (op_eqD (rm64 hr)) (by rfl) ok_Eq (dr_var (i := 9)) (dr_of_de de_int)) (dw_or1 (dt_cmp (op_eqD (rm64 hr)) (by rfl) ok_Eq (dr_of_de (de_op op_mod ok_I (dr_of_de (de_cb ok_int (pe_callTy call_int1 (by rfl) G.f_int boot_int (pa_sz (db_cons (dr_var (i := 5)) db_nil))))) (dr_of_de de_int))) (dr_of_de de_int)))))))))) (fun _ _ _ _ _ => (de_tup (da_cons (de_op op_sub ok_I0 (dr_var (i := 5)) (dr_var (i := 9))) (da_cons (de_var (i := 5)) da_nil)))))) pa_nil))))) dss_nil)))))))) (dss_cons (ds_if (dt_cmp (op_eqD (rm64 hr)) (by rfl) ok_Eq (dr_var (i := 3)) (dr_of_de de_int)) (dss_one (ds_ext (ps_expr (pe_bm PySem.F.plainAttrs_list PySem.F.slot_list_extend PySem.F.type_list_extend mt_extend (pe_var (i := 4) rfl (by first | exact Or.inl rfl | exact Or.inr (Or.inl rfl) | exact Or.inr (Or.inr rfl))) (pa_cons (de_lc (pe_lc (own := [(("turn" : Str), 10)]) rfl nd (dib_of (dif_range1 (pi_range1 rfl G.f_range (db_cons (dr_of_de (de_op op_addAll ok_Add (dr_of_de de_int) (dr_of_de (de_op op_fdivW ok_I (dr_var (i := 2)) (dr_of_de de_int))))) db_nil)))) (blkOk_by (by kernel_rfl)) (fun _ _ _ _ _ => (dg_name (i := 10) nd)) (fun _ _ _ _ _ => dts_nil) (fun _ _ _ _ _ => (de_tup (da_cons (c__law_draw.de hr hgd (by decide) rfl (da_cons (de_var (i := 0)) (da_cons (de_var (i := 2)) da_nil))) (da_cons (c__law_draw.de hr hgd (by decide) rfl (da_cons (de_var (i := 0)) (da_cons (de_var (i := 2)) da_nil))) da_nil)))))) pa_nil))))) dss_nil) (dss_cons (ds_set (i := 7) nd (c__law_shuffled.de hr hgd (by decide) rfl (da_cons (de_var (i := 0)) (da_cons (de_var (i := 2)) da_nil)))) (dss_one (ds_ret (c__law_closed.de hr hgd (by decide) rfl (da_cons (de_var (i := 2)) (da_cons (de_lc (pe_lc (own := [(("a" : Str), 11), (("b" : Str), 12)]) rfl nd (dib_seq (dr_var (i := 4))) (blkOk_by (by kernel_rfl)) (fun _ _ _ _ _ => (dg_tup rfl (dgs_cons (dg_name (i := 11) nd) (dgs_cons (dg_name (i := 12) nd) dgs_nil)))) (fun _ _ _ _ _ => (dts_one (dt_cmp (op_neD (rm64 hr)) (by rfl) ok_Ne (dr_var (i := 11)) (dr_var (i := 12))))) (fun _ _ _ _ _ => (de_tup (da_cons (de_of_dr (dr_ix (rm1 hr) (dr_var (i := 7)) (dr_var (i := 11)))) (da_cons (de_of_dr (dr_ix (rm1 hr) (dr_var (i := 7)) (dr_var (i := 12)))) da_nil)))))) da_nil)))))))))
abbrev N__law_sides : List Str := [("hill" : Str), ("n" : Str), ("pairs" : Str), ("below" : Str), ("above" : Str), ("a" : Str), ("b" : Str), ("at" : Str), ("row" : Str)]
abbrev P__law_sides : List Str := [("hill" : Str)]
theorem sc__law_sides : FnScope N__law_sides P__law_sides (defScope s__law_sides) := ⟨rfl, rfl, rfl, by decide +kernel, rfl, by decide +kernel, by decide +kernel⟩
def T__law_sides : XS := (sSeq (sAsg (xVar 0) (gTp 2 (gC (gNm 1) (gC (gNm 2) gN0)))) (sSeq (sPar [3, 4] (xCons (xLC (xRange1 (xCons (xVarR 1) xNil)) (gNm 7) uYes (xLst (xCons (xVar 7) xNil)) [7]) (xCons (xLC (xRange1 (xCons (xVarR 1) xNil)) (gNm 7) uYes (xLst (xCons (xVar 7) xNil)) [7]) xNil))) (sSeq (sFor (xSeq (xVar 2)) (gTp 2 (gC (gNm 5) (gC (gNm 6) gN0))) (sSeq (sApp2 3 (xVarR 6) (xVar 5)) (sApp2 4 (xVarR 5) (xVar 6)))) (sFz [3, 4] (sRet (xTup (xCons (xLC (xSeq (xVarR 3)) (gNm 8) uYes (xCB cSorted (xCons (xVarR 8) xNil)) [8]) (xCons (xLC (xSeq (xVarR 4)) (gNm 8) uYes (xCB cSorted (xCons (xVarR 8) xNil)) [8]) xNil))))))))
theorem b__law_sides {P : Program} {w : World} {K : PySem.W.Frag} {mg : Str → Option Value} {base : Heap} {dn : Dn} {f : Addr}  (G : Gs K mg) (cdv : Value) (A : Around) (outer : List Env) (s : Shared) (H : Hp) (E : XK) (B : Bs) (hB : B.dn = dn) (hr : Room 0 (A.deeper (envOfC "_law_sides" (defScope s__law_sides) s.heap.objs.size f cdv))) (hgd : A.guards = some []) : DSs (cxOf CX0 P w K mg base N__law_sides "_law_sides" (defScope s__law_sides) f cdv A outer s H E).nox B (defBody s__law_sides) (T__law_sides) := by
  subst hB
  have nd := sc__law_sides.nd
  exact (dss_cons (ds_asg (de_var (i := 0)) (dg_tup rfl (dgs_cons (dg_name (i := 1) nd) (dgs_cons (dg_name (i := 2) nd) dgs_nil)))) (dss_cons (ds_par2 (ps_par (i := 3) (j := 4) rfl nd rfl rfl (by decide) rfl rfl (da_cons (de_lc (pe_lc (own := [(("at" : Str), 7)]) rfl nd (dib_of (dif_range1 (pi_range1 rfl G.f_range (db_cons (dr_var (i := 1)) db_nil)))) (blkOk_by (by kernel_rfl)) (fun _ _ _ _ _ => (dg_name (i := 7) nd)) (fun _ _ _ _ _ => dts_nil) (fun _ _ _ _ _ => (de_lst (da_cons (de_var (i := 7)) da_nil))))) (da_cons (de_lc (pe_lc (own := [(("at" : Str), 7)]) rfl nd (dib_of (dif_range1 (pi_range1 rfl G.f_range (db_cons (dr_var (i := 1)) db_nil)))) (blkOk_by (by kernel_rfl)) (fun _ _ _ _ _ => (dg_name (i := 7) nd)) (fun _ _ _ _ _ => dts_nil) (fun _ _ _ _ _ => (de_lst (da_cons (de_var (i := 7)) da_nil))))) da_nil)) rfl)) (dss_cons (ds_for (ps_for PassesOwn.never rfl (dif_seq (de_var (i := 2))) (dg_tup rfl (dgs_cons (dg_name (i := 5) nd) (dgs_cons (dg_name (i := 6) nd) dgs_nil))) (dss_cons (ds_app2 (ps_expr (pe_bm PySem.F.plainAttrs_list PySem.F.slot_list_append PySem.F.type_list_append mt_append (pe_ix (ix_all (rm1 hr)) (pe_var (i := 3) rfl (by first | exact Or.inl rfl | exact Or.inr (Or.inl rfl) | exact Or.inr (Or.inr rfl))) (dr_var (i := 6)) (by intro _ _; rfl)) (pa_cons (de_var (i := 5)) pa_nil)))) (dss_one (ds_app2 (ps_expr (pe_bm PySem.F.plainAttrs_list PySem.F.slot_list_append PySem.F.type_list_append mt_append (pe_ix (ix_all (rm1 hr)) (pe_var (i := 4) rfl (by first | exact Or.inl rfl | exact Or.inr (Or.inl rfl) | exact Or.inr (Or.inr rfl))) (dr_var (i := 5)) (by intro _ _; rfl)) (pa_cons (de_var (i := 6)) pa_nil)))))))) (dss_one (ds_fz [3, 4] (ds_ret (de_tup (da_cons (de_lc (pe_lc (own := [(("row" : Str), 8)]) rfl nd (dib_seq (dr_var (i := 3))) (blkOk_by (by kernel_rfl)) (fun _ _ _ _ _ => (dg_name (i := 8) nd)) (fun _ _ _ _ _ => dts_nil) (fun _ _ _ _ _ => (de_cb ok_sorted (pe_callB (cr_sortedDD (rm65 hr)) (by rfl) G.f_sorted boot_sorted (pa_sz (db_cons (dr_var (i := 8)) db_nil))))))) (da_cons (de_lc (pe_lc (own := [(("row" : Str), 8)]) rfl nd (dib_seq (dr_var (i := 4))) (blkOk_by (by kernel_rfl)) (fun _ _ _ _ _ => (dg_name (i := 8) nd)) (fun _ _ _ _ _ => dts_nil) (fun _ _ _ _ _ => (de_cb ok_sorted (pe_callB (cr_sortedDD (rm65 hr)) (by rfl) G.f_sorted boot_sorted (pa_sz (db_cons (dr_var (i := 8)) db_nil))))))) da_nil)))))))))
abbrev N__law_closing : List Str := [("rows" : Str), ("lot" : Str), ("found" : Str), ("at" : Str)]
abbrev P__law_closing : List Str := [("rows" : Str), ("lot" : Str)]
theorem sc__law_closing : FnScope N__law_closing P__law_closing (defScope s__law_closing) := ⟨rfl, rfl, rfl, by decide +kernel, rfl, by decide +kernel, by decide +kernel⟩
def T__law_closing : XS := (sSeq (sSet 2 (xLst xNil)) (sSeq (sFor (xSeq (xVar 1)) (gNm 3) (sExtF 2 (xIx (xVarR 0) (xVarR 3)))) (sRet (xCB cTup (xCons (xSortSet (xVarR 2)) xNil)))))
theorem b__law_closing {P : Program} {w : World} {K : PySem.W.Frag} {mg : Str → Option Value} {base : Heap} {dn : Dn} {f : Addr}  (G : Gs K mg) (cdv : Value) (A : Around) (outer : List Env) (s : Shared) (H : Hp) (E : XK) (B : Bs) (hB : B.dn = dn) (hr : Room 0 (A.deeper (envOfC "_law_closing" (defScope s__law_closing) s.heap.objs.size f cdv))) (hgd : A.guards = some []) : DSs (cxOf CX0 P w K mg base N__law_closing "_law_closing" (defScope s__law_closing) f cdv A outer s H E).nox B (defBody s__law_closing) (T__law_closing) := by
  subst hB
  have nd := sc__law_closing.nd
  exact (dss_cons (ds_set (i := 2) nd (de_lst da_nil)) (dss_cons (ds_for (ps_for PassesOwn.never rfl (dif_seq (de_var (i := 1))) (dg_name (i := 3) nd) (dss_one (ds_extF (ps_expr (pe_bm PySem.F.plainAttrs_list PySem.F.slot_list_extend PySem.F.type_list_extend mt_extendF (pe_var (i := 2) rfl (by first | exact Or.inl rfl | exact Or.inr (Or.inl rfl) | exact Or.inr (Or.inr rfl))) (pa_cons (dr_ix (rm1 hr) (dr_var (i := 0)) (dr_var (i := 3))) pa_nil))))))) (dss_one (ds_ret (de_cb ok_tup (pe_callTy call_tuple_of (by rfl) G.f_tuple boot_tuple (pa_sz (db_cons (dr_of_de (de_sortSet (pe_callB (cr_sortedSet rfl) (by rfl) G.f_sorted boot_sorted (pa_cons (pe_callTy (cr_setI rfl) (by rfl) G.f_set boot_set (pa_cons (dr_var (i := 2)) pa_nil)) pa_nil)))) db_nil))))))))
abbrev N__law_outer : List Str := [("rows" : Str), ("lot" : Str), ("found" : Str), ("a" : Str), ("b" : Str)]
abbrev P__law_outer : List Str := [("rows" : Str), ("lot" : Str)]
theorem sc__law_outer : FnScope N__law_outer P__law_outer (defScope s__law_outer) := ⟨rfl, rfl, rfl, by decide +kernel, rfl, by decide +kernel, by decide +kernel⟩
def T__law_outer : XS := (sSeq (sSet 2 (xLst xNil)) (sSeq (sFor (xSeq (xVar 1)) (gNm 3) (sIf (tBl (x2 cEq (xLC (xSeq (xVarR 1)) (gNm 4) (tAndX (tBl (x2 (cIn false) (xVarR 4) (xIx (xVarR 0) (xVarR 3)))) (tOrX (tBl (x2 (cIn true) (xVarR 3) (xIx (xVarR 0) (xVarR 4)))) (tBl (x2 (cB0 fun i j => decide (i < j)) (xVarR 4) (xVarR 3))))) (xVar 4) [4]) (xLst xNil))) (sApp 2 (xVar 3)) sNext)) (sRet (xCB cTup (xCons (xVarR 2) xNil)))))
theorem b__law_outer {P : Program} {w : World} {K : PySem.W.Frag} {mg : Str → Option Value} {base : Heap} {dn : Dn} {f : Addr}  (G : Gs K mg) (cdv : Value) (A : Around) (outer : List Env) (s : Shared) (H : Hp) (E : XK) (B : Bs) (hB : B.dn = dn) (hr : Room 0 (A.deeper (envOfC "_law_outer" (defScope s__law_outer) s.heap.objs.size f cdv))) (hgd : A.guards = some []) : DSs (cxOf CX0 P w K mg base N__law_outer "_law_outer" (defScope s__law_outer) f cdv A outer s H E).nox B (defBody s__law_outer) (T__law_outer) := by
  subst hB
  have nd := sc__law_outer.nd
  exact (dss_cons (ds_set (i := 2) nd (de_lst da_nil)) (dss_cons (ds_for (ps_for PassesOwn.never rfl (dif_seq (de_var (i := 1))) (dg_name (i := 3) nd) (dss_one (ds_if (dt_cmp (op_eqD (rm64 hr)) (by rfl) ok_Eq (dr_of_de (de_lc (pe_lc (own := [(("b" : Str), 4)]) rfl nd (dib_seq (dr_var (i := 1))) (blkOk_by (by kernel_rfl)) (fun _ _ _ _ _ => (dg_name (i := 4) nd)) (fun _ _ _ _ _ => (dts_one (dt_w (dw_and (dt_cmp (op_inAll (rm65 hr)) (by rfl) ok_In (dr_var (i := 4)) (dr_ix (rm1 hr) (dr_var (i := 0)) (dr_var (i := 3)))) (dw_and1 (dt_w (dw_or (dt_cmp (op_notInAll (rm65 hr)) (by rfl) ok_NotIn (dr_var (i := 3)) (dr_ix (rm1 hr) (dr_var (i := 0)) (dr_var (i := 4)))) (dw_or1 (dt_cmp op_lt (by rfl) ok_B0 (dr_var (i := 4)) (dr_var (i := 3))))))))))) (fun _ _ _ _ _ => (de_var (i := 4)))))) (dr_of_de (de_lst da_nil))) (dss_one (ds_app (ps_expr (pe_bm PySem.F.plainAttrs_list PySem.F.slot_list_append PySem.F.type_list_append mt_append (pe_var (i := 2) rfl (by first | exact Or.inl rfl | exact Or.inr (Or.inl rfl) | exact Or.inr (Or.inr rfl))) (pa_cons (de_var (i := 3)) pa_nil))))) dss_nil)))) (dss_one (ds_ret (de_cb ok_tup (pe_callTy call_tuple_of (by rfl) G.f_tuple boot_tuple (pa_sz (db_cons (dr_var (i := 2)) db_nil))))))))
abbrev N__law_lasts : List Str := [("sides" : Str), ("script" : Str), ("found" : Str), ("at" : Str), ("deed" : Str), ("terrace" : Str)]
abbrev P__law_lasts : List Str := [("sides" : Str), ("script" : Str)]
theorem sc__law_lasts : FnScope N__law_lasts P__law_lasts (defScope s__law_lasts) := ⟨rfl, rfl, rfl, by decide +kernel, rfl, by decide +kernel, by decide +kernel⟩
def T__law_lasts : XS := (sSeq (sSet 2 (x2 cRep (xLst (xCons (xC .none) xNil)) (xCB cLen (xCons (xIx (xVarR 0) (xC (.int 0))) xNil)))) (sSeq (sFor (xEnum (xCons (xVar 1) xNil)) (gTp 2 (gC (gNm 3) (gC (gNm 4) gN0))) (sFor (xSeq (xFlat (xIx (xIx (xVarR 0) (xIf (tBl (x2 cEq (xIx (xVarR 4) (xC (.int 0))) (xC (.str ("pour" : Str))))) (xC (.int 0)) (xC (.int 1)))) (xIx (xVarR 4) (xC (.int 1)))))) (gNm 5) (sSetIx 2 (xVarR 5) (xVar 3)))) (sRetV 2)))
theorem b__law_lasts {P : Program} {w : World} {K : PySem.W.Frag} {mg : Str → Option Value} {base : Heap} {dn : Dn} {f : Addr}  (G : Gs K mg) (cdv : Value) (A : Around) (outer : List Env) (s : Shared) (H : Hp) (E : XK) (B : Bs) (hB : B.dn = dn) (hr : Room 0 (A.deeper (envOfC "_law_lasts" (defScope s__law_lasts) s.heap.objs.size f cdv))) (hgd : A.guards = some []) : DSs (cxOf CX0 P w K mg base N__law_lasts "_law_lasts" (defScope s__law_lasts) f cdv A outer s H E).nox B (defBody s__law_lasts) (T__law_lasts) := by
  subst hB
  have nd := sc__law_lasts.nd
  exact (dss_cons (ds_set (i := 2) nd (de_op op_rep ok_Rep (dr_of_de (de_lst (da_cons de_non da_nil))) (dr_of_de (de_cb ok_len (pe_callB call_len (by rfl) G.f_len boot_len (pa_sz (db_cons (dr_ix (rm1 hr) (dr_var (i := 0)) (dr_of_de de_int)) db_nil))))))) (dss_cons (ds_for (ps_for PassesOwn.never rfl (dif_enum (pi_enumB rfl G.f_enumerate (da_cons (de_var (i := 1)) da_nil))) (dg_tup rfl (dgs_cons (dg_name (i := 3) nd) (dgs_cons (dg_name (i := 4) nd) dgs_nil))) (dss_one (ds_for (ps_for PassesOwn.never rfl (dif_seq (de_of_dr (dr_ix (rm1 hr) (dr_ix (rm1 hr) (dr_var (i := 0)) (dr_of_de (de_if (dt_cmp (op_eqD (rm64 hr)) (by rfl) ok_Eq (dr_ix (rm1 hr) (dr_var (i := 4)) (dr_of_de de_int)) (dr_of_de de_str)) de_int de_int))) (dr_ix (rm1 hr) (dr_var (i := 4)) (dr_of_de de_int))))) (dg_name (i := 5) nd) (dss_one (ds_setIx (ps_asg (de_var (i := 3)) (pg_sub (pe_var (i := 2) rfl (by first | exact Or.inl rfl | exact Or.inr (Or.inl rfl) | exact Or.inr (Or.inr rfl))) (dr_var (i := 5)) set_list))))))))) (dss_one (ds_retv (i := 2) (ps_ret (pe_var rfl (by first | exact Or.inl rfl | exact Or.inr (Or.inl rfl) | exact Or.inr (Or.inr rfl))))))))
abbrev N__law_couple : List Str := [("sides" : Str), ("script" : Str), ("lasts" : Str), ("wet" : Str), ("dry" : Str), ("x" : Str), ("at" : Str)]
abbrev P__law_couple : List Str := [("sides" : Str), ("script" : Str)]
theorem sc__law_couple : FnScope N__law_couple P__law_couple (defScope s__law_couple) := ⟨rfl, rfl, rfl, by decide +kernel, rfl, by decide +kernel, by decide +kernel⟩
def T__law_couple (S__law_lasts : FS) : XS := (sSeq (sSet 2 (xCall S__law_lasts (xCons (xVar 0) (xCons (xVar 1) xNil)))) (sSeq (sSet 3 (xLC (xEnum (xCons (xVarR 2) xNil)) (gTp 2 (gC (gNm 5) (gC (gNm 6) gN0))) (tAndX (tBl (x2 (cIs true) (xVarR 6) (xC .none))) (tBl (x2 cEq (xIx (xIx (xVarR 1) (xVarR 6)) (xC (.int 0))) (xC (.str ("pour" : Str)))))) (xVar 5) [5, 6])) (sSeq (sSet 4 (xLC (xEnum (xCons (xVarR 2) xNil)) (gTp 2 (gC (gNm 5) (gC (gNm 6) gN0))) (tAndX (tBl (x2 (cIs true) (xVarR 6) (xC .none))) (tBl (x2 cEq (xIx (xIx (xVarR 1) (xVarR 6)) (xC (.int 0))) (xC (.str ("open" : Str)))))) (xVar 5) [5, 6])) (sRet (xTup (xCons (xCB cTup (xCons (xVarR 3) xNil)) (xCons (xCB cTup (xCons (xVarR 4) xNil)) xNil)))))))
theorem b__law_couple {P : Program} {w : World} {K : PySem.W.Frag} {mg : Str → Option Value} {base : Heap} {dn : Dn} {f : Addr}{ S__law_lasts : FS}  (G : Gs K mg) (c__law_lasts : Cal P w K mg base dn 1 "_law_lasts" s__law_lasts P__law_lasts S__law_lasts) (cdv : Value) (A : Around) (outer : List Env) (s : Shared) (H : Hp) (E : XK) (B : Bs) (hB : B.dn = dn) (hr : Room 1 (A.deeper (envOfC "_law_couple" (defScope s__law_couple) s.heap.objs.size f cdv))) (hgd : A.guards = some []) : DSs (cxOf CX0 P w K mg base N__law_couple "_law_couple" (defScope s__law_couple) f cdv A outer s H E).nox B (defBody s__law_couple) (T__law_couple S__law_lasts) := by
  subst hB
  have nd := sc__law_couple.nd
  exact (dss_cons (ds_set (i := 2) nd (c__law_lasts.de hr hgd (by decide) rfl (da_cons (de_var (i := 0)) (da_cons (de_var (i := 1)) da_nil)))) (dss_cons (ds_setLc (ps_setLc (i := 3) (own := [(("x" : Str), 5), (("at" : Str), 6)]) rfl nd rfl rfl (sw_true rfl rfl rfl (by decide +kernel)) (dib_enum (pi_enumB rfl G.f_enumerate (db_cons (dr_var (i := 2)) db_nil))) (blkOk_by (by kernel_rfl)) (fun _ _ _ _ _ => (dg_tup rfl (dgs_cons (dg_name (i := 5) nd) (dgs_cons (dg_name (i := 6) nd) dgs_nil)))) (fun _ _ _ _ _ => (dts_one (dt_w (dw_and (dt_cmp op_isNotA (by rfl) ok_Is (dr_var (i := 6)) (dr_of_de de_non)) (dw_and1 (dt_cmp (op_eqD (rm64 hr)) (by rfl) ok_Eq (dr_ix (rm1 hr) (dr_ix (rm1 hr) (dr_var (i := 1)) (dr_var (i := 6))) (dr_of_de de_int)) (dr_of_de de_str))))))) (fun _ _ _ _ _ => (de_var (i := 5))))) (dss_cons (ds_setLc (ps_setLc (i := 4) (own := [(("x" : Str), 5), (("at" : Str), 6)]) rfl nd rfl rfl (sw_true rfl rfl rfl (by decide +kernel)) (dib_enum (pi_enumB rfl G.f_enumerate (db_cons (dr_var (i := 2)) db_nil))) (blkOk_by (by kernel_rfl)) (fun _ _ _ _ _ => (dg_tup rfl (dgs_cons (dg_name (i := 5) nd) (dgs_cons (dg_name (i := 6) nd) dgs_nil)))) (fun _ _ _ _ _ => (dts_one (dt_w (dw_and (dt_cmp op_isNotA (by rfl) ok_Is (dr_var (i := 6)) (dr_of_de de_non)) (dw_and1 (dt_cmp (op_eqD (rm64 hr)) (by rfl) ok_Eq (dr_ix (rm1 hr) (dr_ix (rm1 hr) (dr_var (i := 1)) (dr_var (i := 6))) (dr_of_de de_int)) (dr_of_de de_str))))))) (fun _ _ _ _ _ => (de_var (i := 5))))) (dss_one (ds_ret (de_tup (da_cons (de_cb ok_tup (pe_callTy call_tuple_of (by rfl) G.f_tuple boot_tuple (pa_sz (db_cons (dr_var (i := 3)) db_nil)))) (da_cons (de_cb ok_tup (pe_callTy call_tuple_of (by rfl) G.f_tuple boot_tuple (pa_sz (db_cons (dr_var (i := 4)) db_nil)))) da_nil))))))))
abbrev N__law_script : List Str := [("deck" : Str), ("n" : Str), ("most" : Str), ("found" : Str), ("place" : Str), ("turn" : Str)]
abbrev P__law_script : List Str := [("deck" : Str), ("n" : Str), ("most" : Str)]
theorem sc__law_script : FnScope N__law_script P__law_script (defScope s__law_script) := ⟨rfl, rfl, rfl, by decide +kernel, rfl, by decide +kernel, by decide +kernel⟩
def T__law_script (S__law_draw : FS) (S__law_pick : FS) : XS := (sSeq (sPar [3, 4] (xCons (xLst xNil) (xCons (xCall S__law_draw (xCons (xVar 0) (xCons (xVar 1) xNil))) xNil))) (sSeq (sFor (xRange1 (xCons (xCall S__law_draw (xCons (xVar 0) (xCons (x2 cAdd (xVarR 2) (xC (.int 1))) xNil))) xNil)) (gNm 5) (sSeq (sIf (tBl (x2 (cB0 fun i j => decide (j < i)) (xCall S__law_draw (xCons (xVar 0) (xCons (xC (.int 4)) xNil))) (xC (.int 0)))) (sSet 4 (xCall S__law_draw (xCons (xVar 0) (xCons (xVar 1) xNil)))) sNext) (sApp 3 (xTup (xCons (xCall S__law_pick (xCons (xVar 0) (xCons (xLst (xCons (xC (.str ("pour" : Str))) (xCons (xC (.str ("open" : Str))) xNil))) xNil))) (xCons (xVar 4) xNil)))))) (sRet (xCB cTup (xCons (xVarR 3) xNil)))))
theorem b__law_script {P : Program} {w : World} {K : PySem.W.Frag} {mg : Str → Option Value} {base : Heap} {dn : Dn} {f : Addr}{ S__law_draw S__law_pick : FS}  (G : Gs K mg) (c__law_draw : Cal P w K mg base dn 1 "_law_draw" s__law_draw P__law_draw S__law_draw) (c__law_pick : Cal P w K mg base dn 2 "_law_pick" s__law_pick P__law_pick S__law_pick) (cdv : Value) (A : Around) (outer : List Env) (s : Shared) (H : Hp) (E : XK) (B : Bs) (hB : B.dn = dn) (hr : Room 2 (A.deeper (envOfC "_law_script" (defScope s__law_script) s.heap.objs.size f cdv))) (hgd : A.guards = some []) : DSs (cxOf CX0 P w K mg base N__law_script "_law_script" (defScope s__law_script) f cdv A outer s H E).nox B (defBody s__law_script) (T__law_script S__law_draw S__law_pick) := by
  subst hB
  have nd := sc__law_script.nd
  exact (dss_cons (ds_par2 (ps_par (i := 3) (j := 4) rfl nd rfl rfl (by decide) rfl rfl (da_cons (de_lst da_nil) (da_cons (c__law_draw.de hr hgd (by decide) rfl (da_cons (de_var (i := 0)) (da_cons (de_var (i := 1)) da_nil))) da_nil)) rfl)) (dss_cons (ds_for (ps_for PassesOwn.never rfl (dif_range1 (pi_range1 rfl G.f_range (db_cons (dr_of_de (c__law_draw.de hr hgd (by decide) rfl (da_cons (de_var (i := 0)) (da_cons (de_op op_addAll ok_Add (dr_var (i := 2)) (dr_of_de de_int)) da_nil)))) db_nil))) (dg_name (i := 5) nd) (dss_cons (ds_if (dt_cmp op_gt (by rfl) ok_B0 (dr_of_de (c__law_draw.de hr hgd (by decide) rfl (da_cons (de_var (i := 0)) (da_cons de_int da_nil)))) (dr_of_de de_int)) (dss_one (ds_set (i := 4) nd (c__law_draw.de hr hgd (by decide) rfl (da_cons (de_var (i := 0)) (da_cons (de_var (i := 1)) da_nil))))) dss_nil) (dss_one (ds_app (ps_expr (pe_bm PySem.F.plainAttrs_list PySem.F.slot_list_append PySem.F.type_list_append mt_append (pe_var (i := 3) rfl (by first | exact Or.inl rfl | exact Or.inr (Or.inl rfl) | exact Or.inr (Or.inr rfl))) (pa_cons (de_tup (da_cons (c__law_pick.de hr hgd (by decide) rfl (da_cons (de_var (i := 0)) (da_cons (de_lst (da_cons de_str (da_cons de_str da_nil))) da_nil))) (da_cons (de_var (i := 4)) da_nil))) pa_nil)))))))) (dss_one (ds_ret (de_cb ok_tup (pe_callTy call_tuple_of (by rfl) G.f_tuple boot_tuple (pa_sz (db_cons (dr_var (i := 3)) db_nil))))))))
abbrev N__law_lot : List Str := [("deck" : Str), ("n" : Str), ("part" : Str), ("at" : Str)]
abbrev P__law_lot : List Str := [("deck" : Str), ("n" : Str)]
theorem sc__law_lot : FnScope N__law_lot P__law_lot (defScope s__law_lot) := ⟨rfl, rfl, rfl, by decide +kernel, rfl, by decide +kernel, by decide +kernel⟩
def T__law_lot (S__law_pick : FS) (S__law_draw : FS) : XS := (sSeq (sSet 2 (xCall S__law_pick (xCons (xVar 0) (xCons (xLst (xCons (xC (.int 2)) (xCons (xC (.int 3)) (xCons (xC (.int 2)) (xCons (xC (.int 1)) xNil))))) xNil)))) (sRet (xCB cTup (xCons (xLC (xRange1 (xCons (xVarR 1) xNil)) (gNm 3) (tBl (x2 cEq (xCall S__law_draw (xCons (xVar 0) (xCons (xVar 2) xNil))) (xC (.int 0)))) (xVar 3) [3]) xNil))))
theorem b__law_lot {P : Program} {w : World} {K : PySem.W.Frag} {mg : Str → Option Value} {base : Heap} {dn : Dn} {f : Addr}{ S__law_pick S__law_draw : FS}  (G : Gs K mg) (c__law_pick : Cal P w K mg base dn 2 "_law_pick" s__law_pick P__law_pick S__law_pick) (c__law_draw : Cal P w K mg base dn 1 "_law_draw" s__law_draw P__law_draw S__law_draw) (cdv : Value) (A : Around) (outer : List Env) (s : Shared) (H : Hp) (E : XK) (B : Bs) (hB : B.dn = dn) (hr : Room 2 (A.deeper (envOfC "_law_lot" (defScope s__law_lot) s.heap.objs.size f cdv))) (hgd : A.guards = some []) : DSs (cxOf CX0 P w K mg base N__law_lot "_law_lot" (defScope s__law_lot) f cdv A outer s H E).nox B (defBody s__law_lot) (T__law_lot S__law_pick S__law_draw) := by
  subst hB
  have nd := sc__law_lot.nd
  exact (dss_cons (ds_set (i := 2) nd (c__law_pick.de hr hgd (by decide) rfl (da_cons (de_var (i := 0)) (da_cons (de_lst (da_cons de_int (da_cons de_int (da_cons de_int (da_cons de_int da_nil))))) da_nil)))) (dss_one (ds_ret (de_cb ok_tup (pe_callTy call_tuple_of (by rfl) G.f_tuple boot_tuple (pa_sz (db_cons (dr_of_de (de_lc (pe_lc (own := [(("at" : Str), 3)]) rfl nd (dib_of (dif_range1 (pi_range1 rfl G.f_range (db_cons (dr_var (i := 1)) db_nil)))) (blkOk_by (by kernel_rfl)) (fun _ _ _ _ _ => (dg_name (i := 3) nd)) (fun _ _ _ _ _ => (dts_one (dt_cmp (op_eqD (rm64 hr)) (by rfl) ok_Eq (dr_of_de (c__law_draw.de hr hgd (by decide) rfl (da_cons (de_var (i := 0)) (da_cons (de_var (i := 2)) da_nil)))) (dr_of_de de_int)))) (fun _ _ _ _ _ => (de_var (i := 3)))))) db_nil)))))))
abbrev N__law_led : List Str := [("deck" : Str), ("one" : Str), ("n" : Str), ("places" : Str), ("pairs" : Str), ("at" : Str), ("a" : Str), ("b" : Str), ("turn" : Str)]
abbrev P__law_led : List Str := [("deck" : Str), ("one" : Str), ("n" : Str)]
theorem sc__law_led : FnScope N__law_led P__law_led (defScope s__law_led) := ⟨rfl, rfl, rfl, by decide +kernel, rfl, by decide +kernel, by decide +kernel⟩
def T__law_led (S__law_draw : FS) (S__law_closed : FS) : XS := (sSeq (sSet 3 (xCB cTup (xCons (xLC (xRange1 (xCons (xIx (xVarR 1) (xC (.int 0))) xNil)) (gNm 5) uYes (xCall S__law_draw (xCons (xVar 0) (xCons (xVar 2) xNil))) [5]) xNil))) (sSeq (sSet 4 (xLC (xSeq (xIx (xVarR 1) (xC (.int 1)))) (gTp 2 (gC (gNm 6) (gC (gNm 7) gN0))) uYes (xTup (xCons (xFlat (xIx (xVarR 3) (xVarR 6))) (xCons (xFlat (xIx (xVarR 3) (xVarR 7))) xNil))) [6, 7])) (sSeq (sExt 4 (xLC (xRange1 (xCons (xCall S__law_draw (xCons (xVar 0) (xCons (xC (.int 4)) xNil))) xNil)) (gNm 8) uYes (xTup (xCons (xCall S__law_draw (xCons (xVar 0) (xCons (xVar 2) xNil))) (xCons (xCall S__law_draw (xCons (xVar 0) (xCons (xVar 2) xNil))) xNil))) [8])) (sRet (xTup (xCons (xCall S__law_closed (xCons (xVar 2) (xCons (xLC (xSeq (xVarR 4)) (gTp 2 (gC (gNm 6) (gC (gNm 7) gN0))) (tBl (x2 cNe (xVarR 6) (xVarR 7))) (xTup (xCons (xVar 6) (xCons (xVar 7) xNil))) [6, 7]) xNil))) (xCons (xVar 3) xNil)))))))
theorem b__law_led {P : Program} {w : World} {K : PySem.W.Frag} {mg : Str → Option Value} {base : Heap} {dn : Dn} {f : Addr}{ S__law_draw S__law_closed : FS}  (G : Gs K mg) (c__law_draw : Cal P w K mg base dn 1 "_law_draw" s__law_draw P__law_draw S__law_draw) (c__law_closed : Cal P w K mg base dn 1 "_law_closed" s__law_closed P__law_closed S__law_closed) (cdv : Value) (A : Around) (outer : List Env) (s : Shared) (H : Hp) (E : XK) (B : Bs) (hB : B.dn = dn) (hr : Room 1 (A.deeper (envOfC "_law_led" (defScope s__law_led) s.heap.objs.size f cdv))) (hgd : A.guards = some []) : DSs (cxOf CX0 P w K mg base N__law_led "_law_led" (defScope s__law_led) f cdv A outer s H E).nox B (defBody s__law_led) (T__law_led S__law_draw S__law_closed) := by
  subst hB
  have nd := sc__law_led.nd
  exact (dss_cons (ds_set (i := 3) nd (de_cb ok_tup (pe_callTy call_tuple_of (by rfl) G.f_tuple boot_tuple (pa_sz (db_cons (dr_of_de (de_lc (pe_lc (own := [(("at" : Str), 5)]) rfl nd (dib_of (dif_range1 (pi_range1 rfl G.f_range (db_cons (dr_ix (rm1 hr) (dr_var (i := 1)) (dr_of_de de_int)) db_nil)))) (blkOk_by (by kernel_rfl)) (fun _ _ _ _ _ => (dg_name (i := 5) nd)) (fun _ _ _ _ _ => dts_nil) (fun _ _ _ _ _ => (c__law_draw.de hr hgd (by decide) rfl (da_cons (de_var (i := 0)) (da_cons (de_var (i := 2)) da_nil))))))) db_nil))))) (dss_cons (ds_setLc (ps_setLc (i := 4) (own := [(("a" : Str), 6), (("b" : Str), 7)]) rfl nd rfl rfl (sw_true rfl rfl rfl (by decide +kernel)) (dib_seq (dr_ix (rm1 hr) (dr_var (i := 1)) (dr_of_de de_int))) (blkOk_by (by kernel_rfl)) (fun _ _ _ _ _ => (dg_tup rfl (dgs_cons (dg_name (i := 6) nd) (dgs_cons (dg_name (i := 7) nd) dgs_nil)))) (fun _ _ _ _ _ => dts_nil) (fun _ _ _ _ _ => (de_tup (da_cons (de_of_dr (dr_ix (rm1 hr) (dr_var (i := 3)) (dr_var (i := 6)))) (da_cons (de_of_dr (dr_ix (rm1 hr) (dr_var (i := 3)) (dr_var (i := 7)))) da_nil)))))) (dss_cons (ds_ext (ps_expr (pe_bm PySem.F.plainAttrs_list PySem.F.slot_list_extend PySem.F.type_list_extend mt_extend (pe_var (i := 4) rfl (by first | exact Or.inl rfl | exact Or.inr (Or.inl rfl) | exact Or.inr (Or.inr rfl))) (pa_cons (de_lc (pe_lc (own := [(("turn" : Str), 8)]) rfl nd (dib_of (dif_range1 (pi_range1 rfl G.f_range (db_cons (dr_of_de (c__law_draw.de hr hgd (by decide) rfl (da_cons (de_var (i := 0)) (da_cons de_int da_nil)))) db_nil)))) (blkOk_by (by kernel_rfl)) (fun _ _ _ _ _ => (dg_name (i := 8) nd)) (fun _ _ _ _ _ => dts_nil) (fun _ _ _ _ _ => (de_tup (da_cons (c__law_draw.de hr hgd (by decide) rfl (da_cons (de_var (i := 0)) (da_cons (de_var (i := 2)) da_nil))) (da_cons (c__law_draw.de hr hgd (by decide) rfl (da_cons (de_var (i := 0)) (da_cons (de_var (i := 2)) da_nil))) da_nil)))))) pa_nil)))) (dss_one (ds_ret (de_tup (da_cons (c__law_closed.de hr hgd (by decide) rfl (da_cons (de_var (i := 2)) (da_cons (de_lc (pe_lc (own := [(("a" : Str), 6), (("b" : Str), 7)]) rfl nd (dib_seq (dr_var (i := 4))) (blkOk_by (by kernel_rfl)) (fun _ _ _ _ _ => (dg_tup rfl (dgs_cons (dg_name (i := 6) nd) (dgs_cons (dg_name (i := 7) nd) dgs_nil)))) (fun _ _ _ _ _ => (dts_one (dt_cmp (op_neD (rm64 hr)) (by rfl) ok_Ne (dr_var (i := 6)) (dr_var (i := 7))))) (fun _ _ _ _ _ => (de_tup (da_cons (de_var (i := 6)) (da_cons (de_var (i := 7)) da_nil)))))) da_nil))) (da_cons (de_var (i := 3)) da_nil))))))))
abbrev N__law_leading : List Str := [("deck" : Str), ("other" : Str), ("n" : Str), ("places" : Str), ("above" : Str), ("some" : Str), ("pairs" : Str), ("a" : Str), ("near" : Str), ("at" : Str), ("b" : Str)]
abbrev P__law_leading : List Str := [("deck" : Str), ("other" : Str), ("n" : Str)]
theorem sc__law_leading : FnScope N__law_leading P__law_leading (defScope s__law_leading) := ⟨rfl, rfl, rfl, by decide +kernel, rfl, by decide +kernel, by decide +kernel⟩
def T__law_leading (S__law_draw : FS) (S__law_sides : FS) (S__law_closed : FS) : XS := (sSeq (sPar [3, 4, 5] (xCons (xCB cTup (xCons (xLC (xRange1 (xCons (xVarR 2) xNil)) (gNm 9) uYes (xCall S__law_draw (xCons (xVar 0) (xCons (xFlat (xIx (xVarR 1) (xC (.int 0)))) xNil))) [9]) xNil)) (xCons (xFlat (xIx (xCall S__law_sides (xCons (xVar 1) xNil)) (xC (.int 1)))) (xCons (x2 cAdd (xCall S__law_draw (xCons (xVar 0) (xCons (xC (.int 3)) xNil))) (xC (.int 1))) xNil)))) (sSeq (sSet 6 (xLst xNil)) (sSeq (sFor (xRange1 (xCons (xVarR 2) xNil)) (gNm 7) (sSeq (sSet 8 (xLC (xRange1 (xCons (xVarR 2) xNil)) (gNm 10) (tAndX (tBl (x2 cNe (xVarR 10) (xVarR 7))) (tBl (x2 (cIn false) (xIx (xVarR 3) (xVarR 10)) (xIx (xVarR 4) (xIx (xVarR 3) (xVarR 7)))))) (xVar 10) [10])) (sExt 6 (xLC (xSeq (xVarR 8)) (gNm 10) (tBl (x2 cEq (xCall S__law_draw (xCons (xVar 0) (xCons (xVar 5) xNil))) (xC (.int 0)))) (xTup (xCons (xVar 7) (xCons (xVar 10) xNil))) [10])))) (sFz [6] (sRet (xTup (xCons (xCall S__law_closed (xCons (xVar 2) (xCons (xVar 6) xNil))) (xCons (xVar 3) xNil))))))))
theorem b__law_leading {P : Program} {w : World} {K : PySem.W.Frag} {mg : Str → Option Value} {base : Heap} {dn : Dn} {f : Addr}{ S__law_draw S__law_sides S__law_closed : FS}  (G : Gs K mg) (c__law_draw : Cal P w K mg base dn 1 "_law_draw" s__law_draw P__law_draw S__law_draw) (c__law_sides : Cal P w K mg base dn 1 "_law_sides" s__law_sides P__law_sides S__law_sides) (c__law_closed : Cal P w K mg base dn 1 "_law_closed" s__law_closed P__law_closed S__law_closed) (cdv : Value) (A : Around) (outer : List Env) (s : Shared) (H : Hp) (E : XK) (B : Bs) (hB : B.dn = dn) (hr : Room 1 (A.deeper (envOfC "_law_leading" (defScope s__law_leading) s.heap.objs.size f cdv))) (hgd : A.guards = some []) : DSs (cxOf CX0 P w K mg base N__law_leading "_law_leading" (defScope s__law_leading) f cdv A outer s H E).nox B (defBody s__law_leading) (T__law_leading S__law_draw S__law_sides S__law_closed) := by
  subst hB
  have nd := sc__law_leading.nd
  exact (dss_cons (ds_parN (is := [3, 4, 5]) (n := 3) (ps_asg (pe_tup (da_cons (de_cb ok_tup (pe_callTy call_tuple_of (by rfl) G.f_tuple boot_tuple (pa_sz (db_cons (dr_of_de (de_lc (pe_lc (own := [(("at" : Str), 9)]) rfl nd (dib_of (dif_range1 (pi_range1 rfl G.f_range (db_cons (dr_var (i := 2)) db_nil)))) (blkOk_by (by kernel_rfl)) (fun _ _ _ _ _ => (dg_name (i := 9) nd)) (fun _ _ _ _ _ => dts_nil) (fun _ _ _ _ _ => (c__law_draw.de hr hgd (by decide) rfl (da_cons (de_var (i := 0)) (da_cons (de_of_dr (dr_ix (rm1 hr) (dr_var (i := 1)) (dr_of_de de_int))) da_nil))))))) db_nil)))) (da_cons (de_of_dr (dr_ix (rm1 hr) (dr_of_de (c__law_sides.de hr hgd (by decide) rfl (da_cons (de_var (i := 1)) da_nil))) (dr_of_de de_int))) (da_cons (de_op op_addAll ok_Add (dr_of_de (c__law_draw.de hr hgd (by decide) rfl (da_cons (de_var (i := 0)) (da_cons de_int da_nil)))) (dr_of_de de_int)) da_nil)))) (pg_tup rfl (pgs_cons (pg_name (i := 3) nd rfl (by first | exact Or.inl rfl | exact Or.inr rfl)) (pgs_cons (pg_name (i := 4) nd rfl (by first | exact Or.inl rfl | exact Or.inr rfl)) (pgs_cons (pg_name (i := 5) nd rfl (by first | exact Or.inl rfl | exact Or.inr rfl)) pgs_nil)))))) (dss_cons (ds_set (i := 6) nd (de_lst da_nil)) (dss_cons (ds_for (ps_for PassesOwn.never rfl (dif_range1 (pi_range1 rfl G.f_range (db_cons (dr_var (i := 2)) db_nil))) (dg_name (i := 7) nd) (dss_cons (ds_setLc (ps_setLc (i := 8) (own := [(("b" : Str), 10)]) rfl nd rfl rfl (sw_true rfl rfl rfl (by decide +kernel)) (dib_of (dif_range1 (pi_range1 rfl G.f_range (db_cons (dr_var (i := 2)) db_nil)))) (blkOk_by (by kernel_rfl)) (fun _ _ _ _ _ => (dg_name (i := 10) nd)) (fun _ _ _ _ _ => (dts_one (dt_w (dw_and (dt_cmp (op_neD (rm64 hr)) (by rfl) ok_Ne (dr_var (i := 10)) (dr_var (i := 7))) (dw_and1 (dt_cmp (op_inAll (rm65 hr)) (by rfl) ok_In (dr_ix (rm1 hr) (dr_var (i := 3)) (dr_var (i := 10))) (dr_ix (rm1 hr) (dr_var (i := 4)) (dr_ix (rm1 hr) (dr_var (i := 3)) (dr_var (i := 7)))))))))) (fun _ _ _ _ _ => (de_var (i := 10))))) (dss_one (ds_ext (ps_expr (pe_bm PySem.F.plainAttrs_list PySem.F.slot_list_extend PySem.F.type_list_extend mt_extend (pe_var (i := 6) rfl (by first | exact Or.inl rfl | exact Or.inr (Or.inl rfl) | exact Or.inr (Or.inr rfl))) (pa_cons (de_lc (pe_lc (own := [(("b" : Str), 10)]) rfl nd (dib_seq (dr_var (i := 8))) (blkOk_by (by kernel_rfl)) (fun _ _ _ _ _ => (dg_name (i := 10) nd)) (fun _ _ _ _ _ => (dts_one (dt_cmp (op_eqD (rm64 hr)) (by rfl) ok_Eq (dr_of_de (c__law_draw.de hr hgd (by decide) rfl (da_cons (de_var (i := 0)) (da_cons (de_var (i := 5)) da_nil)))) (dr_of_de de_int)))) (fun _ _ _ _ _ => (de_tup (da_cons (de_var (i := 7)) (da_cons (de_var (i := 10)) da_nil)))))) pa_nil)))))))) (dss_one (ds_fz [6] (ds_ret (de_tup (da_cons (c__law_closed.de hr hgd (by decide) rfl (da_cons (de_var (i := 2)) (da_cons (de_var (i := 6)) da_nil))) (da_cons (de_var (i := 3)) da_nil)))))))))
abbrev N__law_mapped : List Str := [("deck" : Str), ("most" : Str), ("n" : Str), ("hill" : Str), ("other" : Str), ("places" : Str), ("one" : Str)]
abbrev P__law_mapped : List Str := [("deck" : Str), ("most" : Str)]
theorem sc__law_mapped : FnScope N__law_mapped P__law_mapped (defScope s__law_mapped) := ⟨rfl, rfl, rfl, by decide +kernel, rfl, by decide +kernel, by decide +kernel⟩
def T__law_mapped (S__law_draw : FS) (S__law_hill : FS) (S__law_led : FS) (S__law_leading : FS) : XS := (sSeq (sPar [2, 3] (xCons (x2 cAdd (xC (.int 1)) (xCall S__law_draw (xCons (xVar 0) (xCons (xVar 1) xNil)))) (xCons (xCall S__law_hill (xCons (xVar 0) (xCons (xVar 1) xNil))) xNil))) (sSeq (sIf (tBl (x2 cEq (xCall S__law_draw (xCons (xVar 0) (xCons (xC (.int 2)) xNil))) (xC (.int 0)))) (sSeq (sAsg (xCall S__law_led (xCons (xVar 0) (xCons (xVar 3) (xCons (xVar 2) xNil)))) (gTp 2 (gC (gNm 4) (gC (gNm 5) gN0)))) (sRet (xTup (xCons (xVar 3) (xCons (xVar 4) (xCons (xVar 5) xNil)))))) sNext) (sSeq (sAsg (xCall S__law_leading (xCons (xVar 0) (xCons (xVar 3) (xCons (xVar 2) xNil)))) (gTp 2 (gC (gNm 6) (gC (gNm 5) gN0)))) (sRet (xTup (xCons (xVar 6) (xCons (xVar 3) (xCons (xVar 5) xNil))))))))
theorem b__law_mapped {P : Program} {w : World} {K : PySem.W.Frag} {mg : Str → Option Value} {base : Heap} {dn : Dn} {f : Addr}{ S__law_draw S__law_hill S__law_led S__law_leading : FS}  (G : Gs K mg) (c__law_draw : Cal P w K mg base dn 1 "_law_draw" s__law_draw P__law_draw S__law_draw) (c__law_hill : Cal P w K mg base dn 3 "_law_hill" s__law_hill P__law_hill S__law_hill) (c__law_led : Cal P w K mg base dn 2 "_law_led" s__law_led P__law_led S__law_led) (c__law_leading : Cal P w K mg base dn 2 "_law_leading" s__law_leading P__law_leading S__law_leading) (cdv : Value) (A : Around) (outer : List Env) (s : Shared) (H : Hp) (E : XK) (B : Bs) (hB : B.dn = dn) (hr : Room 3 (A.deeper (envOfC "_law_mapped" (defScope s__law_mapped) s.heap.objs.size f cdv))) (hgd : A.guards = some []) : DSs (cxOf CX0 P w K mg base N__law_mapped "_law_mapped" (defScope s__law_mapped) f cdv A outer s H E).nox B (defBody s__law_mapped) (T__law_mapped S__law_draw S__law_hill S__law_led S__law_leading) := by
  subst hB
  have nd := sc__law_mapped.nd
  exact (dss_cons (ds_par2 (ps_par (i := 2) (j := 3) rfl nd rfl rfl (by decide) rfl rfl (da_cons (de_op op_addAll ok_Add (dr_of_de de_int) (dr_of_de (c__law_draw.de hr hgd (by decide) rfl (da_cons (de_var (i := 0)) (da_cons (de_var (i := 1)) da_nil))))) (da_cons (c__law_hill.de hr hgd (by decide) rfl (da_cons (de_var (i := 0)) (da_cons (de_var (i := 1)) da_nil))) da_nil)) rfl)) (dss_cons (ds_if (dt_cmp (op_eqD (rm64 hr)) (by rfl) ok_Eq (dr_of_de (c__law_draw.de hr hgd (by decide) rfl (da_cons (de_var (i := 0)) (da_cons de_int da_nil)))) (dr_of_de de_int)) (dss_cons (ds_asg (c__law_led.de hr hgd (by decide) rfl (da_cons (de_var (i := 0)) (da_cons (de_var (i := 3)) (da_cons (de_var (i := 2)) da_nil)))) (dg_tup rfl (dgs_cons (dg_name (i := 4) nd) (dgs_cons (dg_name (i := 5) nd) dgs_nil)))) (dss_one (ds_ret (de_tup (da_cons (de_var (i := 3)) (da_cons (de_var (i := 4)) (da_cons (de_var (i := 5)) da_nil))))))) dss_nil) (dss_cons (ds_asg (c__law_leading.de hr hgd (by decide) rfl (da_cons (de_var (i := 0)) (da_cons (de_var (i := 3)) (da_cons (de_var (i := 2)) da_nil)))) (dg_tup rfl (dgs_cons (dg_name (i := 6) nd) (dgs_cons (dg_name (i := 5) nd) dgs_nil)))) (dss_one (ds_ret (de_tup (da_cons (de_var (i := 6)) (da_cons (de_var (i := 3)) (da_cons (de_var (i := 5)) da_nil)))))))))
abbrev N__law_carried : List Str := [("places" : Str), ("lot" : Str), ("at" : Str), ("place" : Str)]
abbrev P__law_carried : List Str := [("places" : Str), ("lot" : Str)]
theorem sc__law_carried : FnScope N__law_carried P__law_carried (defScope s__law_carried) := ⟨rfl, rfl, rfl, by decide +kernel, rfl, by decide +kernel, by decide +kernel⟩
def T__law_carried : XS := (sRet (xCB cTup (xCons (xLC (xEnum (xCons (xVarR 0) xNil)) (gTp 2 (gC (gNm 2) (gC (gNm 3) gN0))) (tBl (x2 (cIn false) (xVarR 3) (xVarR 1))) (xVar 2) [2, 3]) xNil)))
theorem b__law_carried {P : Program} {w : World} {K : PySem.W.Frag} {mg : Str → Option Value} {base : Heap} {dn : Dn} {f : Addr}  (G : Gs K mg) (cdv : Value) (A : Around) (outer : List Env) (s : Shared) (H : Hp) (E : XK) (B : Bs) (hB : B.dn = dn) (hr : Room 0 (A.deeper (envOfC "_law_carried" (defScope s__law_carried) s.heap.objs.size f cdv))) (hgd : A.guards = some []) : DSs (cxOf CX0 P w K mg base N__law_carried "_law_carried" (defScope s__law_carried) f cdv A outer s H E).nox B (defBody s__law_carried) (T__law_carried) := by
  subst hB
  have nd := sc__law_carried.nd
  exact (dss_one (ds_ret (de_cb ok_tup (pe_callTy call_tuple_of (by rfl) G.f_tuple boot_tuple (pa_sz (db_cons (dr_of_de (de_lc (pe_lc (own := [(("at" : Str), 2), (("place" : Str), 3)]) rfl nd (dib_enum (pi_enumB rfl G.f_enumerate (db_cons (dr_var (i := 0)) db_nil))) (blkOk_by (by kernel_rfl)) (fun _ _ _ _ _ => (dg_tup rfl (dgs_cons (dg_name (i := 2) nd) (dgs_cons (dg_name (i := 3) nd) dgs_nil)))) (fun _ _ _ _ _ => (dts_one (dt_cmp (op_inAll (rm65 hr)) (by rfl) ok_In (dr_var (i := 3)) (dr_var (i := 1))))) (fun _ _ _ _ _ => (de_var (i := 2)))))) db_nil))))))
abbrev N__law_due : List Str := [("one" : Str), ("other" : Str), ("places" : Str), ("deed" : Str), ("rows" : Str), ("lot" : Str), ("at" : Str)]
abbrev P__law_due : List Str := [("one" : Str), ("other" : Str), ("places" : Str), ("deed" : Str)]
theorem sc__law_due : FnScope N__law_due P__law_due (defScope s__law_due) := ⟨rfl, rfl, rfl, by decide +kernel, rfl, by decide +kernel, by decide +kernel⟩
def T__law_due (S__law_carried : FS) (S__law_sides : FS) (S__law_outer : FS) : XS := (sSeq (sSet 4 (xIf (tBl (x2 cEq (xIx (xVarR 3) (xC (.int 0))) (xC (.str ("pour" : Str))))) (xC (.int 0)) (xC (.int 1)))) (sSeq (sSet 5 (xCall S__law_carried (xCons (xVar 2) (xCons (xFlat (xIx (xIx (xCall S__law_sides (xCons (xVar 1) xNil)) (xVarR 4)) (xIx (xVarR 3) (xC (.int 1))))) xNil)))) (sRet (xCB cTup (xCons (xLC (xSeq (xCall S__law_outer (xCons (xFlat (xIx (xCall S__law_sides (xCons (xVar 0) xNil)) (x2 (cI0 fun i j => i - j) (xC (.int 1)) (xVarR 4)))) (xCons (xVar 5) xNil)))) (gNm 6) uYes (xTup (xCons (xFlat (xIx (xVarR 3) (xC (.int 0)))) (xCons (xVar 6) xNil))) [6]) xNil)))))
theorem b__law_due {P : Program} {w : World} {K : PySem.W.Frag} {mg : Str → Option Value} {base : Heap} {dn : Dn} {f : Addr}{ S__law_carried S__law_sides S__law_outer : FS}  (G : Gs K mg) (c__law_carried : Cal P w K mg base dn 1 "_law_carried" s__law_carried P__law_carried S__law_carried) (c__law_sides : Cal P w K mg base dn 1 "_law_sides" s__law_sides P__law_sides S__law_sides) (c__law_outer : Cal P w K mg base dn 1 "_law_outer" s__law_outer P__law_outer S__law_outer) (cdv : Value) (A : Around) (outer : List Env) (s : Shared) (H : Hp) (E : XK) (B : Bs) (hB : B.dn = dn) (hr : Room 1 (A.deeper (envOfC "_law_due" (defScope s__law_due) s.heap.objs.size f cdv))) (hgd : A.guards = some []) : DSs (cxOf CX0 P w K mg base N__law_due "_law_due" (defScope s__law_due) f cdv A outer s H E).nox B (defBody s__law_due) (T__law_due S__law_carried S__law_sides S__law_outer) := by
  subst hB
  have nd := sc__law_due.nd
  exact (dss_cons (ds_set (i := 4) nd (de_if (dt_cmp (op_eqD (rm64 hr)) (by rfl) ok_Eq (dr_ix (rm1 hr) (dr_var (i := 3)) (dr_of_de de_int)) (dr_of_de de_str)) de_int de_int)) (dss_cons (ds_set (i := 5) nd (c__law_carried.de hr hgd (by decide) rfl (da_cons (de_var (i := 2)) (da_cons (de_of_dr (dr_ix (rm1 hr) (dr_ix (rm1 hr) (dr_of_de (c__law_sides.de hr hgd (by decide) rfl (da_cons (de_var (i := 1)) da_nil))) (dr_var (i := 4))) (dr_ix (rm1 hr) (dr_var (i := 3)) (dr_of_de de_int)))) da_nil)))) (dss_one (ds_ret (de_cb ok_tup (pe_callTy call_tuple_of (by rfl) G.f_tuple boot_tuple (pa_sz (db_cons (dr_of_de (de_lc (pe_lc (own := [(("at" : Str), 6)]) rfl nd (dib_seq (dr_of_de (c__law_outer.de hr hgd (by decide) rfl (da_cons (de_of_dr (dr_ix (rm1 hr) (dr_of_de (c__law_sides.de hr hgd (by decide) rfl (da_cons (de_var (i := 0)) da_nil))) (dr_of_de (de_op op_sub ok_I0 (dr_of_de de_int) (dr_var (i := 4)))))) (da_cons (de_var (i := 5)) da_nil))))) (blkOk_by (by kernel_rfl)) (fun _ _ _ _ _ => (dg_name (i := 6) nd)) (fun _ _ _ _ _ => dts_nil) (fun _ _ _ _ _ => (de_tup (da_cons (de_of_dr (dr_ix (rm1 hr) (dr_var (i := 3)) (dr_of_de de_int))) (da_cons (de_var (i := 6)) da_nil))))))) db_nil))))))))
abbrev N__law_are_deeds_right : List Str := [("one" : Str), ("other" : Str), ("places" : Str), ("script" : Str), ("whole" : Str), ("deed" : Str), ("due" : Str), ("told" : Str), ("reached" : Str), ("it" : Str)]
abbrev P__law_are_deeds_right : List Str := [("one" : Str), ("other" : Str), ("places" : Str), ("script" : Str)]
theorem sc__law_are_deeds_right : FnScope N__law_are_deeds_right P__law_are_deeds_right (defScope s__law_are_deeds_right) := ⟨rfl, rfl, rfl, by decide +kernel, rfl, by decide +kernel, by decide +kernel⟩
def T__law_are_deeds_right (S__law_due : FS) (S_carried_deed : FS) (S_reach : FS) (S__law_carried : FS) (S_carried_script : FS) : XS := (sSeq (sSet 4 (xTup xNil)) (sSeq (sFor (xSeq (xVar 3)) (gNm 5) (sSeq (sSet 6 (xCall S__law_due (xCons (xVar 0) (xCons (xVar 1) (xCons (xVar 2) (xCons (xVar 5) xNil)))))) (sSeq (sSet 7 (xLst (xCons (xCall S_carried_deed (xCons (xVar 0) (xCons (xVar 1) (xCons (xVar 2) (xCons (xVar 5) xNil))))) (xCons (xCallK S_carried_deed 4 [3, 2, 1, 0] (xCons (xVar 5) (xCons (xVar 2) (xCons (xVar 1) (xCons (xVar 0) xNil))))) xNil)))) (sSeq (sIf (tBl (x2 cNeS (xCB cRepr (xCons (xVarR 7) xNil)) (xCB cRepr (xCons (x2 cRep (xLst (xCons (xVar 6) xNil)) (xC (.int 2))) xNil)))) (sRet (xC (.bool false))) sNext) (sSeq (sSet 8 (xLst xNil)) (sSeq (sFor (xSeq (xVar 6)) (gNm 9) (sExt 8 (xCB cLst (xCons (xCall S_reach (xCons (xVar 0) (xCons (xVar 9) xNil))) xNil)))) (sSeq (sIf (tBl (x2 cNe (xSortSet (xVarR 8)) (xCB cLst (xCons (xCall S__law_carried (xCons (xVar 2) (xCons (xCall S_reach (xCons (xVar 1) (xCons (xVar 5) xNil))) xNil))) xNil)))) (sRet (xC (.bool false))) sNext) (sSet 4 (x2 cAdd (xVarR 4) (xVarR 6)))))))))) (sSeq (sSet 7 (xLst (xCons (xCall S_carried_script (xCons (xVar 0) (xCons (xVar 1) (xCons (xVar 2) (xCons (xVar 3) xNil))))) (xCons (xCallK S_carried_script 4 [2, 3, 1, 0] (xCons (xVar 3) (xCons (xVar 2) (xCons (xVar 0) (xCons (xVar 1) xNil))))) xNil)))) (sRet (x2 cEqS (xCB cRepr (xCons (xVarR 7) xNil)) (xCB cRepr (xCons (x2 cRep (xLst (xCons (xVar 4) xNil)) (xC (.int 2))) xNil)))))))
theorem b__law_are_deeds_right {P : Program} {w : World} {K : PySem.W.Frag} {mg : Str → Option Value} {base : Heap} {dn : Dn} {f : Addr}{ S__law_due S_carried_deed S_reach S__law_carried S_carried_script : FS}  (G : Gs K mg) (c__law_due : Cal P w K mg base dn 2 "_law_due" s__law_due P__law_due S__law_due) (c_carried_deed : Cal P w K mg base dn 9 "carried_deed" s_carried_deed P_carried_deed S_carried_deed) (c_reach : Cal P w K mg base dn 7 "reach" s_reach P_reach S_reach) (c__law_carried : Cal P w K mg base dn 1 "_law_carried" s__law_carried P__law_carried S__law_carried) (c_carried_script : Cal P w K mg base dn 9 "carried_script" s_carried_script P_carried_script S_carried_script) (cdv : Value) (A : Around) (outer : List Env) (s : Shared) (H : Hp) (E : XK) (B : Bs) (hB : B.dn = dn) (hr : Room 9 (A.deeper (envOfC "_law_are_deeds_right" (defScope s__law_are_deeds_right) s.heap.objs.size f cdv))) (hgd : A.guards = some []) : DSs (cxOf CX0 P w K mg base N__law_are_deeds_right "_law_are_deeds_right" (defScope s__law_are_deeds_right) f cdv A outer s H E).nox B (defBody s__law_are_deeds_right) (T__law_are_deeds_right S__law_due S_carried_deed S_reach S__law_carried S_carried_script) := by
  subst hB
  have nd := sc__law_are_deeds_right.nd
  exact (dss_cons (ds_set (i := 4) nd (de_tup da_nil)) (dss_cons (ds_for (ps_for PassesOwn.never rfl (dif_seq (de_var (i := 3))) (dg_name (i := 5) nd) (dss_cons (ds_set (i := 6) nd (c__law_due.de hr hgd (by decide) rfl (da_cons (de_var (i := 0)) (da_cons (de_var (i := 1)) (da_cons (de_var (i := 2)) (da_cons (de_var (i := 5)) da_nil)))))) (dss_cons (ds_set (i := 7) nd (de_lst (da_cons (c_carried_deed.de hr hgd (by decide) rfl (da_cons (de_var (i := 0)) (da_cons (de_var (i := 1)) (da_cons (de_var (i := 2)) (da_cons (de_var (i := 5)) da_nil))))) (da_cons (c_carried_deed.deK (ks := [("deed" : Str), ("places" : Str), ("other" : Str), ("one" : Str)]) (is := [3, 2, 1, 0]) hr hgd (by decide) rfl (fun _ _ _ _ _ _ _ ws hl => match ws, hl with | [_, _, _, _], _ => rfl) rfl rfl (dk_cons (de_var (i := 5)) (dk_cons (de_var (i := 2)) (dk_cons (de_var (i := 1)) (dk_cons (de_var (i := 0)) dk_nil))))) da_nil)))) (dss_cons (ds_if (dt_cmp op_ne (by rfl) ok_NeS (dr_of_de (de_cb ok_repr (pe_callB (cr_repr hgd (rm65 hr)) (by rfl) G.f_repr boot_repr (pa_sz (db_cons (dr_var (i := 7)) db_nil))))) (dr_of_de (de_cb ok_repr (pe_callB (cr_repr hgd (rm65 hr)) (by rfl) G.f_repr boot_repr (pa_sz (db_cons (dr_of_de (de_op op_rep ok_Rep (dr_of_de (de_lst (da_cons (de_var (i := 6)) da_nil))) (dr_of_de de_int))) db_nil)))))) (dss_one (ds_ret de_bl)) dss_nil) (dss_cons (ds_set (i := 8) nd (de_lst da_nil)) (dss_cons (ds_for (ps_for PassesOwn.never rfl (dif_seq (de_var (i := 6))) (dg_name (i := 9) nd) (dss_one (ds_ext (ps_expr (pe_bm PySem.F.plainAttrs_list PySem.F.slot_list_extend PySem.F.type_list_extend mt_extend (pe_var (i := 8) rfl (by first | exact Or.inl rfl | exact Or.inr (Or.inl rfl) | exact Or.inr (Or.inr rfl))) (pa_cons (de_cb ok_lst (pe_callTy call_list_of (by rfl) G.f_list boot_list (pa_sz (db_cons (dr_of_de (c_reach.de hr hgd (by decide) rfl (da_cons (de_var (i := 0)) (da_cons (de_var (i := 9)) da_nil)))) db_nil)))) pa_nil))))))) (dss_cons (ds_if (dt_cmp (op_neD (rm64 hr)) (by rfl) ok_Ne (dr_of_de (de_sortSet (pe_callB (cr_sortedSet rfl) (by rfl) G.f_sorted boot_sorted (pa_cons (pe_callTy (cr_setI rfl) (by rfl) G.f_set boot_set (pa_cons (dr_var (i := 8)) pa_nil)) pa_nil)))) (dr_of_de (de_cb ok_lst (pe_callTy call_list_of (by rfl) G.f_list boot_list (pa_sz (db_cons (dr_of_de (c__law_carried.de hr hgd (by decide) rfl (da_cons (de_var (i := 2)) (da_cons (c_reach.de hr hgd (by decide) rfl (da_cons (de_var (i := 1)) (da_cons (de_var (i := 5)) da_nil))) da_nil)))) db_nil)))))) (dss_one (ds_ret de_bl)) dss_nil) (dss_one (ds_set (i := 4) nd (de_op op_addAll ok_Add (dr_var (i := 4)) (dr_var (i := 6))))))))))))) (dss_cons (ds_set (i := 7) nd (de_lst (da_cons (c_carried_script.de hr hgd (by decide) rfl (da_cons (de_var (i := 0)) (da_cons (de_var (i := 1)) (da_cons (de_var (i := 2)) (da_cons (de_var (i := 3)) da_nil))))) (da_cons (c_carried_script.deK (ks := [("script" : Str), ("places" : Str), ("one" : Str), ("other" : Str)]) (is := [2, 3, 1, 0]) hr hgd (by decide) rfl (fun _ _ _ _ _ _ _ ws hl => match ws, hl with | [_, _, _, _], _ => rfl) rfl rfl (dk_cons (de_var (i := 3)) (dk_cons (de_var (i := 2)) (dk_cons (de_var (i := 0)) (dk_cons (de_var (i := 1)) dk_nil))))) da_nil)))) (dss_one (ds_ret (de_cmp op_eq (by rfl) ok_EqS (dr_of_de (de_cb ok_repr (pe_callB (cr_repr hgd (rm65 hr)) (by rfl) G.f_repr boot_repr (pa_sz (db_cons (dr_var (i := 7)) db_nil))))) (dr_of_de (de_cb ok_repr (pe_callB (cr_repr hgd (rm65 hr)) (by rfl) G.f_repr boot_repr (pa_sz (db_cons (dr_of_de (de_op op_rep ok_Rep (dr_of_de (de_lst (da_cons (de_var (i := 4)) da_nil))) (dr_of_de de_int))) db_nil)))))))))))
abbrev N__law_told_couple : List Str := [("hill" : Str), ("script" : Str)]
abbrev P__law_told_couple : List Str := [("hill" : Str), ("script" : Str)]
theorem sc__law_told_couple : FnScope N__law_told_couple P__law_told_couple (defScope s__law_told_couple) := ⟨rfl, rfl, rfl, by decide +kernel, rfl, by decide +kernel, by decide +kernel⟩
def T__law_told_couple (S_couple_of : FS) (S__law_couple : FS) (S__law_sides : FS) : XS := (sRet (xIf (tBl (x2 (cB0 fun i j => decide (i ≤ j)) (xCB cLen (xCons (xVarR 1) xNil)) (xC (.int 60)))) (xCall S_couple_of (xCons (xVar 0) (xCons (xVar 1) xNil))) (xCall S__law_couple (xCons (xCall S__law_sides (xCons (xVar 0) xNil)) (xCons (xVar 1) xNil)))))
theorem b__law_told_couple {P : Program} {w : World} {K : PySem.W.Frag} {mg : Str → Option Value} {base : Heap} {dn : Dn} {f : Addr}{ S_couple_of S__law_couple S__law_sides : FS}  (G : Gs K mg) (c_couple_of : Cal P w K mg base dn 7 "couple_of" s_couple_of P_couple_of S_couple_of) (c__law_couple : Cal P w K mg base dn 2 "_law_couple" s__law_couple P__law_couple S__law_couple) (c__law_sides : Cal P w K mg base dn 1 "_law_sides" s__law_sides P__law_sides S__law_sides) (cdv : Value) (A : Around) (outer : List Env) (s : Shared) (H : Hp) (E : XK) (B : Bs) (hB : B.dn = dn) (hr : Room 7 (A.deeper (envOfC "_law_told_couple" (defScope s__law_told_couple) s.heap.objs.size f cdv))) (hgd : A.guards = some []) : DSs (cxOf CX0 P w K mg base N__law_told_couple "_law_told_couple" (defScope s__law_told_couple) f cdv A outer s H E).nox B (defBody s__law_told_couple) (T__law_told_couple S_couple_of S__law_couple S__law_sides) := by
  subst hB
  have nd := sc__law_told_couple.nd
  exact (dss_one (ds_ret (de_if (dt_cmp op_le (by rfl) ok_B0 (dr_of_de (de_cb ok_len (pe_callB call_len (by rfl) G.f_len boot_len (pa_sz (db_cons (dr_var (i := 1)) db_nil))))) (dr_of_de de_int)) (c_couple_of.de hr hgd (by decide) rfl (da_cons (de_var (i := 0)) (da_cons (de_var (i := 1)) da_nil))) (c__law_couple.de hr hgd (by decide) rfl (da_cons (c__law_sides.de hr hgd (by decide) rfl (da_cons (de_var (i := 0)) da_nil)) (da_cons (de_var (i := 1)) da_nil))))))
abbrev N__law_is_led_right : List Str := [("one" : Str), ("other" : Str), ("places" : Str), ("water" : Str), ("script" : Str), ("back" : Str), ("whole" : Str), ("later" : Str), ("wet" : Str), ("dry" : Str), ("due" : Str)]
abbrev P__law_is_led_right : List Str := [("one" : Str), ("other" : Str), ("places" : Str), ("water" : Str), ("script" : Str)]
theorem sc__law_is_led_right : FnScope N__law_is_led_right P__law_is_led_right (defScope s__law_is_led_right) := ⟨rfl, rfl, rfl, by decide +kernel, rfl, by decide +kernel, by decide +kernel⟩
def T__law_is_led_right (S_carried_water : FS) (S_carried_script : FS) (S__law_carried : FS) (S_is_water : FS) (S_run : FS) (S__law_couple : FS) (S__law_sides : FS) (S__law_told_couple : FS) (S_couple_of : FS) : XS := (sSeq (sPar [5, 6] (xCons (xCall S_carried_water (xCons (xVar 0) (xCons (xVar 1) (xCons (xVar 2) (xCons (xVar 3) xNil))))) (xCons (xCall S_carried_script (xCons (xVar 0) (xCons (xVar 1) (xCons (xVar 2) (xCons (xVar 4) xNil))))) xNil))) (sSeq (sIf (tOrX (tBl (x2 cNeS (xCB cRepr (xCons (xVarR 5) xNil)) (xCB cRepr (xCons (xCall S__law_carried (xCons (xVar 2) (xCons (xVar 3) xNil))) xNil)))) (tNotX (tBl (xCall S_is_water (xCons (xVar 0) (xCons (xVar 5) xNil)))))) (sRet (xC (.bool false))) sNext) (sSeq (sIf (tBl (x2 cNeS (xCB cRepr (xCons (xCallK S_carried_water 4 [3, 2, 1, 0] (xCons (xVar 3) (xCons (xVar 2) (xCons (xVar 1) (xCons (xVar 0) xNil))))) xNil)) (xCB cRepr (xCons (xVarR 5) xNil)))) (sRet (xC (.bool false))) sNext) (sSeq (sSet 7 (xCall S_run (xCons (xVar 1) (xCons (xVar 3) (xCons (xVar 4) xNil))))) (sSeq (sIf (tAndX (tBl (x2 (cB0 fun i j => decide (i ≤ j)) (xCB cLen (xCons (xVarR 6) xNil)) (xC (.int 60)))) (tBl (x2 cNeS (xCB cRepr (xCons (xCall S_run (xCons (xVar 0) (xCons (xVar 5) (xCons (xVar 6) xNil)))) xNil)) (xCB cRepr (xCons (xCall S_carried_water (xCons (xVar 0) (xCons (xVar 1) (xCons (xVar 2) (xCons (xVar 7) xNil))))) xNil))))) (sRet (xC (.bool false))) sNext) (sSeq (sAsg (xCall S__law_couple (xCons (xCall S__law_sides (xCons (xVar 1) xNil)) (xCons (xVar 4) xNil))) (gTp 2 (gC (gNm 8) (gC (gNm 9) gN0)))) (sSeq (sSet 10 (xTup (xCons (xCall S__law_carried (xCons (xVar 2) (xCons (xVar 8) xNil))) (xCons (xCall S__law_carried (xCons (xVar 2) (xCons (xVar 9) xNil))) xNil)))) (sRet (x2 cEqS (xCB cRepr (xCons (xLst (xCons (xCall S__law_told_couple (xCons (xVar 0) (xCons (xVar 6) xNil))) (xCons (xCall S_couple_of (xCons (xVar 1) (xCons (xVar 4) xNil))) xNil))) xNil)) (xCB cRepr (xCons (xLst (xCons (xVar 10) (xCons (xTup (xCons (xVar 8) (xCons (xVar 9) xNil))) xNil))) xNil)))))))))))
theorem b__law_is_led_right {P : Program} {w : World} {K : PySem.W.Frag} {mg : Str → Option Value} {base : Heap} {dn : Dn} {f : Addr}{ S_carried_water S_carried_script S__law_carried S_is_water S_run S__law_couple S__law_sides S__law_told_couple S_couple_of : FS}  (G : Gs K mg) (c_carried_water : Cal P w K mg base dn 9 "carried_water" s_carried_water P_carried_water S_carried_water) (c_carried_script : Cal P w K mg base dn 9 "carried_script" s_carried_script P_carried_script S_carried_script) (c__law_carried : Cal P w K mg base dn 1 "_law_carried" s__law_carried P__law_carried S__law_carried) (c_is_water : Cal P w K mg base dn 7 "is_water" s_is_water P_is_water S_is_water) (c_run : Cal P w K mg base dn 8 "run" s_run P_run S_run) (c__law_couple : Cal P w K mg base dn 2 "_law_couple" s__law_couple P__law_couple S__law_couple) (c__law_sides : Cal P w K mg base dn 1 "_law_sides" s__law_sides P__law_sides S__law_sides) (c__law_told_couple : Cal P w K mg base dn 8 "_law_told_couple" s__law_told_couple P__law_told_couple S__law_told_couple) (c_couple_of : Cal P w K mg base dn 7 "couple_of" s_couple_of P_couple_of S_couple_of) (cdv : Value) (A : Around) (outer : List Env) (s : Shared) (H : Hp) (E : XK) (B : Bs) (hB : B.dn = dn) (hr : Room 9 (A.deeper (envOfC "_law_is_led_right" (defScope s__law_is_led_right) s.heap.objs.size f cdv))) (hgd : A.guards = some []) : DSs (cxOf CX0 P w K mg base N__law_is_led_right "_law_is_led_right" (defScope s__law_is_led_right) f cdv A outer s H E).nox B (defBody s__law_is_led_right) (T__law_is_led_right S_carried_water S_carried_script S__law_carried S_is_water S_run S__law_couple S__law_sides S__law_told_couple S_couple_of) := by
  subst hB
  have nd := sc__law_is_led_right.nd
  exact (dss_cons (ds_par2 (ps_par (i := 5) (j := 6) rfl nd rfl rfl (by decide) rfl rfl (da_cons (c_carried_water.de hr hgd (by decide) rfl (da_cons (de_var (i := 0)) (da_cons (de_var (i := 1)) (da_cons (de_var (i := 2)) (da_cons (de_var (i := 3)) da_nil))))) (da_cons (c_carried_script.de hr hgd (by decide) rfl (da_cons (de_var (i := 0)) (da_cons (de_var (i := 1)) (da_cons (de_var (i := 2)) (da_cons (de_var (i := 4)) da_nil))))) da_nil)) rfl)) (dss_cons (ds_if (dt_w (dw_or (dt_cmp op_ne (by rfl) ok_NeS (dr_of_de (de_cb ok_repr (pe_callB (cr_repr hgd (rm65 hr)) (by rfl) G.f_repr boot_repr (pa_sz (db_cons (dr_var (i := 5)) db_nil))))) (dr_of_de (de_cb ok_repr (pe_callB (cr_repr hgd (rm65 hr)) (by rfl) G.f_repr boot_repr (pa_sz (db_cons (dr_of_de (c__law_carried.de hr hgd (by decide) rfl (da_cons (de_var (i := 2)) (da_cons (de_var (i := 3)) da_nil)))) db_nil)))))) (dw_or1 (dt_not (dt_val (c_is_water.de hr hgd (by decide) rfl (da_cons (de_var (i := 0)) (da_cons (de_var (i := 5)) da_nil)))))))) (dss_one (ds_ret de_bl)) dss_nil) (dss_cons (ds_if (dt_cmp op_ne (by rfl) ok_NeS (dr_of_de (de_cb ok_repr (pe_callB (cr_repr hgd (rm65 hr)) (by rfl) G.f_repr boot_repr (pa_sz (db_cons (dr_of_de (c_carried_water.deK (ks := [("water" : Str), ("places" : Str), ("other" : Str), ("one" : Str)]) (is := [3, 2, 1, 0]) hr hgd (by decide) rfl (fun _ _ _ _ _ _ _ ws hl => match ws, hl with | [_, _, _, _], _ => rfl) rfl rfl (dk_cons (de_var (i := 3)) (dk_cons (de_var (i := 2)) (dk_cons (de_var (i := 1)) (dk_cons (de_var (i := 0)) dk_nil)))))) db_nil))))) (dr_of_de (de_cb ok_repr (pe_callB (cr_repr hgd (rm65 hr)) (by rfl) G.f_repr boot_repr (pa_sz (db_cons (dr_var (i := 5)) db_nil)))))) (dss_one (ds_ret de_bl)) dss_nil) (dss_cons (ds_set (i := 7) nd (c_run.de hr hgd (by decide) rfl (da_cons (de_var (i := 1)) (da_cons (de_var (i := 3)) (da_cons (de_var (i := 4)) da_nil))))) (dss_cons (ds_if (dt_w (dw_and (dt_cmp op_le (by rfl) ok_B0 (dr_of_de (de_cb ok_len (pe_callB call_len (by rfl) G.f_len boot_len (pa_sz (db_cons (dr_var (i := 6)) db_nil))))) (dr_of_de de_int)) (dw_and1 (dt_cmp op_ne (by rfl) ok_NeS (dr_of_de (de_cb ok_repr (pe_callB (cr_repr hgd (rm65 hr)) (by rfl) G.f_repr boot_repr (pa_sz (db_cons (dr_of_de (c_run.de hr hgd (by decide) rfl (da_cons (de_var (i := 0)) (da_cons (de_var (i := 5)) (da_cons (de_var (i := 6)) da_nil))))) db_nil))))) (dr_of_de (de_cb ok_repr (pe_callB (cr_repr hgd (rm65 hr)) (by rfl) G.f_repr boot_repr (pa_sz (db_cons (dr_of_de (c_carried_water.de hr hgd (by decide) rfl (da_cons (de_var (i := 0)) (da_cons (de_var (i := 1)) (da_cons (de_var (i := 2)) (da_cons (de_var (i := 7)) da_nil)))))) db_nil))))))))) (dss_one (ds_ret de_bl)) dss_nil) (dss_cons (ds_asg (c__law_couple.de hr hgd (by decide) rfl (da_cons (c__law_sides.de hr hgd (by decide) rfl (da_cons (de_var (i := 1)) da_nil)) (da_cons (de_var (i := 4)) da_nil))) (dg_tup rfl (dgs_cons (dg_name (i := 8) nd) (dgs_cons (dg_name (i := 9) nd) dgs_nil)))) (dss_cons (ds_set (i := 10) nd (de_tup (da_cons (c__law_carried.de hr hgd (by decide) rfl (da_cons (de_var (i := 2)) (da_cons (de_var (i := 8)) da_nil))) (da_cons (c__law_carried.de hr hgd (by decide) rfl (da_cons (de_var (i := 2)) (da_cons (de_var (i := 9)) da_nil))) da_nil)))) (dss_one (ds_ret (de_cmp op_eq (by rfl) ok_EqS (dr_of_de (de_cb ok_repr (pe_callB (cr_repr hgd (rm65 hr)) (by rfl) G.f_repr boot_repr (pa_sz (db_cons (dr_of_de (de_lst (da_cons (c__law_told_couple.de hr hgd (by decide) rfl (da_cons (de_var (i := 0)) (da_cons (de_var (i := 6)) da_nil))) (da_cons (c_couple_of.de hr hgd (by decide) rfl (da_cons (de_var (i := 1)) (da_cons (de_var (i := 4)) da_nil))) da_nil)))) db_nil))))) (dr_of_de (de_cb ok_repr (pe_callB (cr_repr hgd (rm65 hr)) (by rfl) G.f_repr boot_repr (pa_sz (db_cons (dr_of_de (de_lst (da_cons (de_var (i := 10)) (da_cons (de_tup (da_cons (de_var (i := 8)) (da_cons (de_var (i := 9)) da_nil))) da_nil)))) db_nil)))))))))))))))
abbrev N__law_is_twice_right : List Str := [("one" : Str), ("other" : Str), ("third" : Str), ("maps" : Str), ("places" : Str), ("later" : Str), ("water" : Str), ("script" : Str), ("both" : Str), ("between" : Str), ("back" : Str), ("turn" : Str), ("once" : Str), ("place" : Str)]
abbrev P__law_is_twice_right : List Str := [("one" : Str), ("other" : Str), ("third" : Str), ("maps" : Str)]
theorem sc__law_is_twice_right : FnScope N__law_is_twice_right P__law_is_twice_right (defScope s__law_is_twice_right) := ⟨rfl, rfl, rfl, by decide +kernel, rfl, by decide +kernel, by decide +kernel⟩
def T__law_is_twice_right (S_carried_script : FS) (S_carried_water : FS) (S__law_told_couple : FS) : XS := (sSeq (sAsg (xVar 3) (gTp 4 (gC (gNm 4) (gC (gNm 5) (gC (gNm 6) (gC (gNm 7) gN0)))))) (sSeq (sPar [8, 9] (xCons (xCB cTup (xCons (xLC (xSeq (xVarR 4)) (gNm 13) uYes (xFlat (xIx (xVarR 5) (xVarR 13))) [13]) xNil)) (xCons (xCall S_carried_script (xCons (xVar 1) (xCons (xVar 2) (xCons (xVar 5) (xCons (xVar 7) xNil))))) xNil))) (sSeq (sSet 10 (xCall S_carried_water (xCons (xVar 0) (xCons (xVar 1) (xCons (xVar 4) (xCons (xCall S_carried_water (xCons (xVar 1) (xCons (xVar 2) (xCons (xVar 5) (xCons (xVar 6) xNil))))) xNil)))))) (sSeq (sIf (tBl (x2 cNeS (xCB cRepr (xCons (xCall S_carried_water (xCons (xVar 0) (xCons (xVar 2) (xCons (xVar 8) (xCons (xVar 6) xNil))))) xNil)) (xCB cRepr (xCons (xVarR 10) xNil)))) (sRet (xC (.bool false))) sNext) (sSeq (sFor (xRange1 (xCons (xC (.int 4)) xNil)) (gNm 11) (sIf (tBl (x2 (cB0 fun i j => decide (j < i)) (xCB cLen (xCons (xVarR 9) xNil)) (xC (.int 7)))) (sSeq (sSet 7 (xSl (xVarR 7) xNoPart (xPart (x1 cNeg (xC (.int 1)))))) (sSet 9 (xCall S_carried_script (xCons (xVar 1) (xCons (xVar 2) (xCons (xVar 5) (xCons (xVar 7) xNil))))))) sNext)) (sSeq (sSet 12 (xCall S_carried_script (xCons (xVar 0) (xCons (xVar 2) (xCons (xVar 8) (xCons (xVar 7) xNil)))))) (sRet (x2 cEqS (xCB cRepr (xCons (xCall S__law_told_couple (xCons (xVar 0) (xCons (xVar 12) xNil))) xNil)) (xCB cRepr (xCons (xCall S__law_told_couple (xCons (xVar 0) (xCons (xCall S_carried_script (xCons (xVar 0) (xCons (xVar 1) (xCons (xVar 4) (xCons (xVar 9) xNil))))) xNil))) xNil))))))))))
theorem b__law_is_twice_right {P : Program} {w : World} {K : PySem.W.Frag} {mg : Str → Option Value} {base : Heap} {dn : Dn} {f : Addr}{ S_carried_script S_carried_water S__law_told_couple : FS}  (G : Gs K mg) (c_carried_script : Cal P w K mg base dn 9 "carried_script" s_carried_script P_carried_script S_carried_script) (c_carried_water : Cal P w K mg base dn 9 "carried_water" s_carried_water P_carried_water S_carried_water) (c__law_told_couple : Cal P w K mg base dn 8 "_law_told_couple" s__law_told_couple P__law_told_couple S__law_told_couple) (cdv : Value) (A : Around) (outer : List Env) (s : Shared) (H : Hp) (E : XK) (B : Bs) (hB : B.dn = dn) (hr : Room 9 (A.deeper (envOfC "_law_is_twice_right" (defScope s__law_is_twice_right) s.heap.objs.size f cdv))) (hgd : A.guards = some []) : DSs (cxOf CX0 P w K mg base N__law_is_twice_right "_law_is_twice_right" (defScope s__law_is_twice_right) f cdv A outer s H E).nox B (defBody s__law_is_twice_right) (T__law_is_twice_right S_carried_script S_carried_water S__law_told_couple) := by
  subst hB
  have nd := sc__law_is_twice_right.nd
  exact (dss_cons (ds_asg (de_var (i := 3)) (dg_tup rfl (dgs_cons (dg_name (i := 4) nd) (dgs_cons (dg_name (i := 5) nd) (dgs_cons (dg_name (i := 6) nd) (dgs_cons (dg_name (i := 7) nd) dgs_nil)))))) (dss_cons (ds_par2 (ps_par (i := 8) (j := 9) rfl nd rfl rfl (by decide) rfl rfl (da_cons (de_cb ok_tup (pe_callTy call_tuple_of (by rfl) G.f_tuple boot_tuple (pa_sz (db_cons (dr_of_de (de_lc (pe_lc (own := [(("place" : Str), 13)]) rfl nd (dib_seq (dr_var (i := 4))) (blkOk_by (by kernel_rfl)) (fun _ _ _ _ _ => (dg_name (i := 13) nd)) (fun _ _ _ _ _ => dts_nil) (fun _ _ _ _ _ => (de_of_dr (dr_ix (rm1 hr) (dr_var (i := 5)) (dr_var (i := 13)))))))) db_nil)))) (da_cons (c_carried_script.de hr hgd (by decide) rfl (da_cons (de_var (i := 1)) (da_cons (de_var (i := 2)) (da_cons (de_var (i := 5)) (da_cons (de_var (i := 7)) da_nil))))) da_nil)) rfl)) (dss_cons (ds_set (i := 10) nd (c_carried_water.de hr hgd (by decide) rfl (da_cons (de_var (i := 0)) (da_cons (de_var (i := 1)) (da_cons (de_var (i := 4)) (da_cons (c_carried_water.de hr hgd (by decide) rfl (da_cons (de_var (i := 1)) (da_cons (de_var (i := 2)) (da_cons (de_var (i := 5)) (da_cons (de_var (i := 6)) da_nil))))) da_nil)))))) (dss_cons (ds_if (dt_cmp op_ne (by rfl) ok_NeS (dr_of_de (de_cb ok_repr (pe_callB (cr_repr hgd (rm65 hr)) (by rfl) G.f_repr boot_repr (pa_sz (db_cons (dr_of_de (c_carried_water.de hr hgd (by decide) rfl (da_cons (de_var (i := 0)) (da_cons (de_var (i := 2)) (da_cons (de_var (i := 8)) (da_cons (de_var (i := 6)) da_nil)))))) db_nil))))) (dr_of_de (de_cb ok_repr (pe_callB (cr_repr hgd (rm65 hr)) (by rfl) G.f_repr boot_repr (pa_sz (db_cons (dr_var (i := 10)) db_nil)))))) (dss_one (ds_ret de_bl)) dss_nil) (dss_cons (ds_for (ps_for PassesOwn.never rfl (dif_range1 (pi_range1 rfl G.f_range (db_cons (dr_of_de de_int) db_nil))) (dg_name (i := 11) nd) (dss_one (ds_if (dt_cmp op_gt (by rfl) ok_B0 (dr_of_de (de_cb ok_len (pe_callB call_len (by rfl) G.f_len boot_len (pa_sz (db_cons (dr_var (i := 9)) db_nil))))) (dr_of_de de_int)) (dss_cons (ds_set (i := 7) nd (de_sl (dr_var (i := 7)) do_none (do_some (dr_of_de (de_un un_neg ok_Neg (dr_of_de de_int)))))) (dss_one (ds_set (i := 9) nd (c_carried_script.de hr hgd (by decide) rfl (da_cons (de_var (i := 1)) (da_cons (de_var (i := 2)) (da_cons (de_var (i := 5)) (da_cons (de_var (i := 7)) da_nil)))))))) dss_nil)))) (dss_cons (ds_set (i := 12) nd (c_carried_script.de hr hgd (by decide) rfl (da_cons (de_var (i := 0)) (da_cons (de_var (i := 2)) (da_cons (de_var (i := 8)) (da_cons (de_var (i := 7)) da_nil)))))) (dss_one (ds_ret (de_cmp op_eq (by rfl) ok_EqS (dr_of_de (de_cb ok_repr (pe_callB (cr_repr hgd (rm65 hr)) (by rfl) G.f_repr boot_repr (pa_sz (db_cons (dr_of_de (c__law_told_couple.de hr hgd (by decide) rfl (da_cons (de_var (i := 0)) (da_cons (de_var (i := 12)) da_nil)))) db_nil))))) (dr_of_de (de_cb ok_repr (pe_callB (cr_repr hgd (rm65 hr)) (by rfl) G.f_repr boot_repr (pa_sz (db_cons (dr_of_de (c__law_told_couple.de hr hgd (by decide) rfl (da_cons (de_var (i := 0)) (da_cons (c_carried_script.de hr hgd (by decide) rfl (da_cons (de_var (i := 0)) (da_cons (de_var (i := 1)) (da_cons (de_var (i := 4)) (da_cons (de_var (i := 9)) da_nil))))) da_nil)))) db_nil))))))))))))))
abbrev N_law : List Str := [("script" : Str), ("deck" : Str), ("one" : Str), ("other" : Str), ("places" : Str), ("deeds" : Str), ("water" : Str), ("same" : Str), ("told" : Str), ("third" : Str), ("later" : Str), ("high" : Str)]
abbrev P_law : List Str := [("script" : Str)]
theorem sc_law : FnScope N_law P_law (defScope s_law) := ⟨rfl, rfl, rfl, by decide +kernel, rfl, by decide +kernel, by decide +kernel⟩
def T_law_rest (S__law_deck : FS) (S__law_mapped : FS) (S__law_pick : FS) (S__law_script : FS) (S__law_draw : FS) (S__law_closing : FS) (S__law_sides : FS) (S__law_lot : FS) (S__law_are_deeds_right : FS) (S__law_is_led_right : FS) (S_carried_water : FS) (S_run : FS) (S_carried_script : FS) (S__law_led : FS) (S__law_is_twice_right : FS) : XS := (sSeq (sAsg (xCall S__law_mapped (xCons (xVar 1) (xCons (xCall S__law_pick (xCons (xVar 1) (xCons (xLst (xCons (xC (.int 8)) (xCons (xC (.int 5)) (xCons (xC (.int 3)) (xCons (xC (.int 8)) (xCons (xC (.int 8)) (xCons (xC (.int 5)) (xCons (xC (.int 3)) (xCons (xC (.int 10)) xNil))))))))) xNil))) xNil))) (gTp 3 (gC (gNm 2) (gC (gNm 3) (gC (gNm 4) gN0))))) (sSeq (sSet 5 (xCall S__law_script (xCons (xVar 1) (xCons (xFlat (xIx (xVarR 3) (xC (.int 0)))) (xCons (xIf (tBl (x2 (cB0 fun i j => decide (j < i)) (xCall S__law_draw (xCons (xVar 1) (xCons (xC (.int 8)) xNil))) (xC (.int 0)))) (xC (.int 7)) (xC (.int 20))) xNil))))) (sSeq (sSet 6 (xCall S__law_closing (xCons (xFlat (xIx (xCall S__law_sides (xCons (xVar 3) xNil)) (xC (.int 0)))) (xCons (xCall S__law_lot (xCons (xVar 1) (xCons (xFlat (xIx (xVarR 3) (xC (.int 0)))) xNil))) xNil)))) (sSeq (sIf (tOrX (tNotX (tBl (xCall S__law_are_deeds_right (xCons (xVar 2) (xCons (xVar 3) (xCons (xVar 4) (xCons (xVar 5) xNil))))))) (tNotX (tBl (xCall S__law_is_led_right (xCons (xVar 2) (xCons (xVar 3) (xCons (xVar 4) (xCons (xVar 6) (xCons (xVar 5) xNil))))))))) (sRet (xC (.bool false))) sNext) (sSeq (sSet 7 (xRgT1 (xIx (xVarR 3) (xC (.int 0))))) (sSeq (sSet 8 (xLst (xCons (xCall S_carried_water (xCons (xVar 3) (xCons (xVar 3) (xCons (xVar 7) (xCons (xVar 6) xNil))))) (xCons (xCall S_run (xCons (xVar 3) (xCons (xVar 6) (xCons (xCall S_carried_script (xCons (xVar 3) (xCons (xVar 3) (xCons (xVar 7) (xCons (xVar 5) xNil))))) xNil)))) xNil)))) (sSeq (sIf (tBl (x2 cNeS (xCB cRepr (xCons (xVarR 8) xNil)) (xCB cRepr (xCons (xLst (xCons (xVar 6) (xCons (xCall S_run (xCons (xVar 3) (xCons (xVar 6) (xCons (xVar 5) xNil)))) xNil))) xNil)))) (sRet (xC (.bool false))) sNext) (sSeq (sAsg (xCall S__law_led (xCons (xVar 1) (xCons (xVar 3) (xCons (x2 cAdd (xC (.int 1)) (xCall S__law_draw (xCons (xVar 1) (xCons (xC (.int 6)) xNil)))) xNil)))) (gTp 2 (gC (gNm 9) (gC (gNm 10) gN0)))) (sSeq (sSet 11 (xCall S__law_closing (xCons (xFlat (xIx (xCall S__law_sides (xCons (xVar 9) xNil)) (xC (.int 0)))) (xCons (xCall S__law_lot (xCons (xVar 1) (xCons (xFlat (xIx (xVarR 9) (xC (.int 0)))) xNil))) xNil)))) (sRet (xCall S__law_is_twice_right (xCons (xVar 2) (xCons (xVar 3) (xCons (xVar 9) (xCons (xTup (xCons (xVar 4) (xCons (xVar 10) (xCons (xVar 11) (xCons (xCall S__law_script (xCons (xVar 1) (xCons (xFlat (xIx (xVarR 9) (xC (.int 0)))) (xCons (xC (.int 4)) xNil)))) xNil))))) xNil)))))))))))))))
def T_law (S__law_deck : FS) (S__law_mapped : FS) (S__law_pick : FS) (S__law_script : FS) (S__law_draw : FS) (S__law_closing : FS) (S__law_sides : FS) (S__law_lot : FS) (S__law_are_deeds_right : FS) (S__law_is_led_right : FS) (S_carried_water : FS) (S_run : FS) (S_carried_script : FS) (S__law_led : FS) (S__law_is_twice_right : FS) : XS := sSeq (sSet 1 (xCall S__law_deck (xCons (xVar 0) xNil))) (sDeck dkn 1 (T_law_rest S__law_deck S__law_mapped S__law_pick S__law_script S__law_draw S__law_closing S__law_sides S__law_lot S__law_are_deeds_right S__law_is_led_right S_carried_water S_run S_carried_script S__law_led S__law_is_twice_right))
theorem b_law_rest {P : Program} {w : World} {K : PySem.W.Frag} {mg : Str → Option Value} {base : Heap} {dn : Dn} {f : Addr} {S__law_deck : FS} {S__law_mapped : FS} {S__law_pick : FS} {S__law_script : FS} {S__law_draw : FS} {S__law_closing : FS} {S__law_sides : FS} {S__law_lot : FS} {S__law_are_deeds_right : FS} {S__law_is_led_right : FS} {S_carried_water : FS} {S_run : FS} {S_carried_script : FS} {S__law_led : FS} {S__law_is_twice_right : FS} (G : Gs K mg) (c__law_deck : Cal P w K mg base dn 1 "_law_deck" s__law_deck P__law_deck S__law_deck) (c__law_mapped : Cal P w K mg base dn 4 "_law_mapped" s__law_mapped P__law_mapped S__law_mapped) (c__law_pick : Cal P w K mg base dn 2 "_law_pick" s__law_pick P__law_pick S__law_pick) (c__law_script : Cal P w K mg base dn 3 "_law_script" s__law_script P__law_script S__law_script) (c__law_draw : Cal P w K mg base dn 1 "_law_draw" s__law_draw P__law_draw S__law_draw) (c__law_closing : Cal P w K mg base dn 1 "_law_closing" s__law_closing P__law_closing S__law_closing) (c__law_sides : Cal P w K mg base dn 1 "_law_sides" s__law_sides P__law_sides S__law_sides) (c__law_lot : Cal P w K mg base dn 3 "_law_lot" s__law_lot P__law_lot S__law_lot) (c__law_are_deeds_right : Cal P w K mg base dn 10 "_law_are_deeds_right" s__law_are_deeds_right P__law_are_deeds_right S__law_are_deeds_right) (c__law_is_led_right : Cal P w K mg base dn 10 "_law_is_led_right" s__law_is_led_right P__law_is_led_right S__law_is_led_right) (c_carried_water : Cal P w K mg base dn 9 "carried_water" s_carried_water P_carried_water S_carried_water) (c_run : Cal P w K mg base dn 8 "run" s_run P_run S_run) (c_carried_script : Cal P w K mg base dn 9 "carried_script" s_carried_script P_carried_script S_carried_script) (c__law_led : Cal P w K mg base dn 2 "_law_led" s__law_led P__law_led S__law_led) (c__law_is_twice_right : Cal P w K mg base dn 10 "_law_is_twice_right" s__law_is_twice_right P__law_is_twice_right S__law_is_twice_right) (cdv : Value) (A : Around) (outer : List Env) (s : Shared) (H : Hp) (E : XK) (B : Bs) (hB : B.dn = dn) (hr : Room 10 (A.deeper (envOfC "law" (defScope s_law) s.heap.objs.size f cdv))) (hgd : A.guards = some []) : DSs (cxOf CX0 P w K mg base N_law "law" (defScope s_law) f cdv A outer s H E).nox B ((defBody s_law).tail) (T_law_rest S__law_deck S__law_mapped S__law_pick S__law_script S__law_draw S__law_closing S__law_sides S__law_lot S__law_are_deeds_right S__law_is_led_right S_carried_water S_run S_carried_script S__law_led S__law_is_twice_right) := by
  subst hB
  have nd := sc_law.nd
  exact (dss_cons (ds_asg (c__law_mapped.de hr hgd (by decide) rfl (da_cons (de_var (i := 1)) (da_cons (c__law_pick.de hr hgd (by decide) rfl (da_cons (de_var (i := 1)) (da_cons (de_lst (da_cons de_int (da_cons de_int (da_cons de_int (da_cons de_int (da_cons de_int (da_cons de_int (da_cons de_int (da_cons de_int da_nil))))))))) da_nil))) da_nil))) (dg_tup rfl (dgs_cons (dg_name (i := 2) nd) (dgs_cons (dg_name (i := 3) nd) (dgs_cons (dg_name (i := 4) nd) dgs_nil))))) (dss_cons (ds_set (i := 5) nd (c__law_script.de hr hgd (by decide) rfl (da_cons (de_var (i := 1)) (da_cons (de_of_dr (dr_ix (rm1 hr) (dr_var (i := 3)) (dr_of_de de_int))) (da_cons (de_if (dt_cmp op_gt (by rfl) ok_B0 (dr_of_de (c__law_draw.de hr hgd (by decide) rfl (da_cons (de_var (i := 1)) (da_cons de_int da_nil)))) (dr_of_de de_int)) de_int de_int) da_nil))))) (dss_cons (ds_set (i := 6) nd (c__law_closing.de hr hgd (by decide) rfl (da_cons (de_of_dr (dr_ix (rm1 hr) (dr_of_de (c__law_sides.de hr hgd (by decide) rfl (da_cons (de_var (i := 3)) da_nil))) (dr_of_de de_int))) (da_cons (c__law_lot.de hr hgd (by decide) rfl (da_cons (de_var (i := 1)) (da_cons (de_of_dr (dr_ix (rm1 hr) (dr_var (i := 3)) (dr_of_de de_int))) da_nil))) da_nil)))) (dss_cons (ds_if (dt_w (dw_or (dt_not (dt_val (c__law_are_deeds_right.de hr hgd (by decide) rfl (da_cons (de_var (i := 2)) (da_cons (de_var (i := 3)) (da_cons (de_var (i := 4)) (da_cons (de_var (i := 5)) da_nil))))))) (dw_or1 (dt_not (dt_val (c__law_is_led_right.de hr hgd (by decide) rfl (da_cons (de_var (i := 2)) (da_cons (de_var (i := 3)) (da_cons (de_var (i := 4)) (da_cons (de_var (i := 6)) (da_cons (de_var (i := 5)) da_nil))))))))))) (dss_one (ds_ret de_bl)) dss_nil) (dss_cons (ds_set (i := 7) nd (de_rgT1 (pe_tupRg rfl (by rfl) G.f_tuple (prg_1 (by rfl) G.f_range (dr_ix (rm1 hr) (dr_var (i := 3)) (dr_of_de de_int)))))) (dss_cons (ds_set (i := 8) nd (de_lst (da_cons (c_carried_water.de hr hgd (by decide) rfl (da_cons (de_var (i := 3)) (da_cons (de_var (i := 3)) (da_cons (de_var (i := 7)) (da_cons (de_var (i := 6)) da_nil))))) (da_cons (c_run.de hr hgd (by decide) rfl (da_cons (de_var (i := 3)) (da_cons (de_var (i := 6)) (da_cons (c_carried_script.de hr hgd (by decide) rfl (da_cons (de_var (i := 3)) (da_cons (de_var (i := 3)) (da_cons (de_var (i := 7)) (da_cons (de_var (i := 5)) da_nil))))) da_nil)))) da_nil)))) (dss_cons (ds_if (dt_cmp op_ne (by rfl) ok_NeS (dr_of_de (de_cb ok_repr (pe_callB (cr_repr hgd (rm65 hr)) (by rfl) G.f_repr boot_repr (pa_sz (db_cons (dr_var (i := 8)) db_nil))))) (dr_of_de (de_cb ok_repr (pe_callB (cr_repr hgd (rm65 hr)) (by rfl) G.f_repr boot_repr (pa_sz (db_cons (dr_of_de (de_lst (da_cons (de_var (i := 6)) (da_cons (c_run.de hr hgd (by decide) rfl (da_cons (de_var (i := 3)) (da_cons (de_var (i := 6)) (da_cons (de_var (i := 5)) da_nil)))) da_nil)))) db_nil)))))) (dss_one (ds_ret de_bl)) dss_nil) (dss_cons (ds_asg (c__law_led.de hr hgd (by decide) rfl (da_cons (de_var (i := 1)) (da_cons (de_var (i := 3)) (da_cons (de_op op_addAll ok_Add (dr_of_de de_int) (dr_of_de (c__law_draw.de hr hgd (by decide) rfl (da_cons (de_var (i := 1)) (da_cons de_int da_nil))))) da_nil)))) (dg_tup rfl (dgs_cons (dg_name (i := 9) nd) (dgs_cons (dg_name (i := 10) nd) dgs_nil)))) (dss_cons (ds_set (i := 11) nd (c__law_closing.de hr hgd (by decide) rfl (da_cons (de_of_dr (dr_ix (rm1 hr) (dr_of_de (c__law_sides.de hr hgd (by decide) rfl (da_cons (de_var (i := 9)) da_nil))) (dr_of_de de_int))) (da_cons (c__law_lot.de hr hgd (by decide) rfl (da_cons (de_var (i := 1)) (da_cons (de_of_dr (dr_ix (rm1 hr) (dr_var (i := 9)) (dr_of_de de_int))) da_nil))) da_nil)))) (dss_one (ds_ret (c__law_is_twice_right.de hr hgd (by decide) rfl (da_cons (de_var (i := 2)) (da_cons (de_var (i := 3)) (da_cons (de_var (i := 9)) (da_cons (de_tup (da_cons (de_var (i := 4)) (da_cons (de_var (i := 10)) (da_cons (de_var (i := 11)) (da_cons (c__law_script.de hr hgd (by decide) rfl (da_cons (de_var (i := 1)) (da_cons (de_of_dr (dr_ix (rm1 hr) (dr_var (i := 9)) (dr_of_de de_int))) (da_cons de_int da_nil)))) da_nil))))) da_nil))))))))))))))))
theorem b_law {P : Program} {w : World} {K : PySem.W.Frag} {mg : Str → Option Value} {base : Heap} {dn : Dn} {f : Addr} {S__law_deck : FS} {S__law_mapped : FS} {S__law_pick : FS} {S__law_script : FS} {S__law_draw : FS} {S__law_closing : FS} {S__law_sides : FS} {S__law_lot : FS} {S__law_are_deeds_right : FS} {S__law_is_led_right : FS} {S_carried_water : FS} {S_run : FS} {S_carried_script : FS} {S__law_led : FS} {S__law_is_twice_right : FS} (G : Gs K mg) (c__law_deck : Cal P w K mg base dn 1 "_law_deck" s__law_deck P__law_deck S__law_deck) (c__law_mapped : Cal P w K mg base dn 4 "_law_mapped" s__law_mapped P__law_mapped S__law_mapped) (c__law_pick : Cal P w K mg base dn 2 "_law_pick" s__law_pick P__law_pick S__law_pick) (c__law_script : Cal P w K mg base dn 3 "_law_script" s__law_script P__law_script S__law_script) (c__law_draw : Cal P w K mg base dn 1 "_law_draw" s__law_draw P__law_draw S__law_draw) (c__law_closing : Cal P w K mg base dn 1 "_law_closing" s__law_closing P__law_closing S__law_closing) (c__law_sides : Cal P w K mg base dn 1 "_law_sides" s__law_sides P__law_sides S__law_sides) (c__law_lot : Cal P w K mg base dn 3 "_law_lot" s__law_lot P__law_lot S__law_lot) (c__law_are_deeds_right : Cal P w K mg base dn 10 "_law_are_deeds_right" s__law_are_deeds_right P__law_are_deeds_right S__law_are_deeds_right) (c__law_is_led_right : Cal P w K mg base dn 10 "_law_is_led_right" s__law_is_led_right P__law_is_led_right S__law_is_led_right) (c_carried_water : Cal P w K mg base dn 9 "carried_water" s_carried_water P_carried_water S_carried_water) (c_run : Cal P w K mg base dn 8 "run" s_run P_run S_run) (c_carried_script : Cal P w K mg base dn 9 "carried_script" s_carried_script P_carried_script S_carried_script) (c__law_led : Cal P w K mg base dn 2 "_law_led" s__law_led P__law_led S__law_led) (c__law_is_twice_right : Cal P w K mg base dn 10 "_law_is_twice_right" s__law_is_twice_right P__law_is_twice_right S__law_is_twice_right) (cdv : Value) (A : Around) (outer : List Env) (s : Shared) (H : Hp) (E : XK) (B : Bs) (hB : B.dn = dn) (hda : B.da = none) (hk : dn.k = dkn) (hr : Room 10 (A.deeper (envOfC "law" (defScope s_law) s.heap.objs.size f cdv))) (hgd : A.guards = some []) : DSs (cxOf CX0 P w K mg base N_law "law" (defScope s_law) f cdv A outer s H E).nox B (defBody s_law) (T_law S__law_deck S__law_mapped S__law_pick S__law_script S__law_draw S__law_closing S__law_sides S__law_lot S__law_are_deeds_right S__law_is_led_right S_carried_water S_run S_carried_script S__law_led S__law_is_twice_right) := by
  have nd := sc_law.nd
  have h2 := dss_deck (X := (cxOf CX0 P w K mg base N_law "law" (defScope s_law) f cdv A outer s H E).nox) (i := 1) hda (fun B' hB' => b_law_rest G c__law_deck c__law_mapped c__law_pick c__law_script c__law_draw c__law_closing c__law_sides c__law_lot c__law_are_deeds_right c__law_is_led_right c_carried_water c_run c_carried_script c__law_led c__law_is_twice_right cdv A outer s H E B' (hB'.trans hB) hr hgd)
  rw [hB, hk] at h2
  subst hB
  exact dss_cons (ds_set (i := 1) nd (c__law_deck.de hr hgd (by decide) rfl (da_cons (de_var (i := 0)) da_nil))) h2
end L87
set_option maxHeartbeats 1000000
namespace DL
open PySem PySem.Spec PyProof.Rows L2
@[simp] theorem and_as {a b c : Prop} : ((a ∧ b) ∧ c) ↔ (a ∧ (b ∧ c)) := and_assoc
end DL
namespace DL
open PySem PySem.Spec PyProof.Rows L2
section
@[simp] theorem kb1 : kitB "NoneType" "int" = some false := by decide +kernel
@[simp] theorem kb2 : kitB "NoneType" "bool" = some false := by decide +kernel
@[simp] theorem kb3 : kitB "NoneType" "str" = some false := by decide +kernel
@[simp] theorem kb4 : kitB "NoneType" "tuple" = some false := by decide +kernel
@[simp] theorem kb5 : kitB "bool" "int" = some true := by decide +kernel
@[simp] theorem kb6 : kitB "bool" "bool" = some true := by decide +kernel
@[simp] theorem kb7 : kitB "bool" "str" = some false := by decide +kernel
@[simp] theorem kb8 : kitB "bool" "tuple" = some false := by decide +kernel
@[simp] theorem kb9 : kitB "int" "int" = some true := by decide +kernel
@[simp] theorem kb10 : kitB "int" "bool" = some false := by decide +kernel
@[simp] theorem kb11 : kitB "int" "str" = some false := by decide +kernel
@[simp] theorem kb12 : kitB "int" "tuple" = some false := by decide +kernel
@[simp] theorem kb13 : kitB "str" "int" = some false := by decide +kernel
@[simp] theorem kb14 : kitB "str" "bool" = some false := by decide +kernel
@[simp] theorem kb15 : kitB "str" "str" = some true := by decide +kernel
@[simp] theorem kb16 : kitB "str" "tuple" = some false := by decide +kernel
@[simp] theorem kb17 : kitB "tuple" "int" = some false := by decide +kernel
@[simp] theorem kb18 : kitB "tuple" "bool" = some false := by decide +kernel
@[simp] theorem kb19 : kitB "tuple" "str" = some false := by decide +kernel
@[simp] theorem kb20 : kitB "tuple" "tuple" = some true := by decide +kernel
@[simp] theorem kb21 : kitB "list" "int" = some false := by decide +kernel
@[simp] theorem kb22 : kitB "list" "bool" = some false := by decide +kernel
@[simp] theorem kb23 : kitB "list" "str" = some false := by decide +kernel
@[simp] theorem kb24 : kitB "list" "tuple" = some false := by decide +kernel
end
section
variable {ds : List D} {cs : List Cell} {i : Int} {s : Str} {b : Bool}
@[simp] theorem slC_t : slC (.im (.tuple ds)) = some (ds, true) := rfl
@[simp] theorem slC_l : slC (.im (.list ds)) = some (ds, false) := rfl
@[simp] theorem slC_o : slC (.ow (ds.map .im)) = some (ds, false) := by simp [slC]
@[simp] theorem seqF_t : seqF (.im (.tuple ds)) = some ds := rfl
@[simp] theorem seqF_l : seqF (.im (.list ds)) = some ds := rfl
@[simp] theorem seqF_o : seqF (.ow (ds.map .im)) = some ds := by simp [seqF]
@[simp] theorem seqF_0 : seqF (.ow []) = some [] := by simp [seqF]
@[simp] theorem seqD_t : seqD (.im (.tuple ds)) = some ds := rfl
@[simp] theorem seqD_l : seqD (.im (.list ds)) = some ds := rfl
@[simp] theorem seqD_o : seqD (.ow (ds.map .im)) = some ds := by simp [seqD]
@[simp] theorem lenC_t : lenC (.im (.tuple ds)) = some ds.length := rfl
@[simp] theorem lenC_l : lenC (.im (.list ds)) = some ds.length := rfl
@[simp] theorem lenC_o : lenC (.ow cs) = some cs.length := rfl
@[simp] theorem tyC_n : tyC (.im .none) = some "NoneType" := rfl
@[simp] theorem tyC_b : tyC (.im (.bool b)) = some "bool" := rfl
@[simp] theorem tyC_i : tyC (.im (.int i)) = some "int" := rfl
@[simp] theorem tyC_s : tyC (.im (.str s)) = some "str" := rfl
@[simp] theorem tyC_t : tyC (.im (.tuple ds)) = some "tuple" := rfl
@[simp] theorem tyC_l : tyC (.im (.list ds)) = some "list" := rfl
@[simp] theorem tyC_o : tyC (.ow cs) = some "list" := rfl
@[simp] theorem truC_n : truC (.im .none) = some false := rfl
@[simp] theorem truC_b : truC (.im (.bool b)) = some b := rfl
@[simp] theorem truC_i : truC (.im (.int i)) = some (i != 0) := rfl
@[simp] theorem truC_t : truC (.im (.tuple ds)) = some (!ds.isEmpty) := rfl
@[simp] theorem truC_l : truC (.im (.list ds)) = some (!ds.isEmpty) := rfl
@[simp] theorem truC_o : truC (.ow cs) = some (!cs.isEmpty) := rfl
@[simp] theorem ixC_t : ixC (.im (.tuple ds)) (.im (.int i)) = (atI ds i).map .im := rfl
@[simp] theorem ixC_l : ixC (.im (.list ds)) (.im (.int i)) = (atI ds i).map .im := rfl
@[simp] theorem ixC_o : ixC (.ow cs) (.im (.int i)) = atI cs i := rfl
@[simp] theorem ixC_dk {ks : List Key} : ixC (.dk ks cs) (.im (.str s)) = getK ks cs (.inr s) := rfl
@[simp] theorem ixC_fk {ks : List Key} : ixC (.fk ks cs) (.im (.str s)) = getK ks cs (.inr s) := rfl
@[simp] theorem ixC_dki {ks : List Key} : ixC (.dk ks cs) (.im (.int i)) = getK ks cs (.inl i) := rfl
@[simp] theorem ixC_fki {ks : List Key} : ixC (.fk ks cs) (.im (.int i)) = getK ks cs (.inl i) := rfl
@[simp] theorem ixC_dt {ks : List (List Key)} : ixC (.dt ks cs) (.im (.tuple ds)) = (keyDs ds).bind fun k => getK ks cs k := rfl
@[simp] theorem ixC_ft {ks : List (List Key)} : ixC (.ft ks cs) (.im (.tuple ds)) = (keyDs ds).bind fun k => getK ks cs k := rfl
@[simp] theorem fl_im {d : D} : (Cell.im d).flat = true := rfl
@[simp] theorem fl_ow : (Cell.ow cs).flat = false := rfl
@[simp] theorem fl_fk {ks : List Key} : (Cell.fk ks cs).flat = true := rfl
@[simp] theorem fl_ft {ks : List (List Key)} : (Cell.ft ks cs).flat = true := rfl
@[simp] theorem fl_deck : (Cell.deck).flat = true := rfl
@[simp] theorem fl_fn {L : LamI} : (Cell.fn L ds).flat = true := rfl
@[simp] theorem fl_un : (Cell.un).flat = false := rfl
@[simp] theorem toD_im {d : D} : toD (.im d) = some d := by simp [toD]
@[simp] theorem toD_ow : toD (.ow cs) = (toDs cs).map .list := by simp [toD]
@[simp] theorem toDs_nil : toDs [] = some [] := by simp [toDs]
@[simp] theorem toDs_cons {d : D} : toDs (.im d :: cs) = (toDs cs).map (d :: ·) := by
  simp only [toDs, toD]
  cases toDs cs <;> rfl
@[simp] theorem toDs_map : toDs (ds.map .im) = some ds := toDs_im ds
end
section
variable {d : D} {cs : List Cell}
@[simp] theorem frz_im : frz (.im d) = .im d := by simp [frz]
@[simp] theorem frz_dk {ks : List Key} : frz (.dk ks cs) = .fk ks (frzs cs) := by simp [frz]
@[simp] theorem frz_dt {ks : List (List Key)} : frz (.dt ks cs) = .ft ks (frzs cs) := by simp [frz]
@[simp] theorem frz_fk {ks : List Key} : frz (.fk ks cs) = .fk ks cs := by simp [frz]
@[simp] theorem frz_ft {ks : List (List Key)} : frz (.ft ks cs) = .ft ks cs := by simp [frz]
@[simp] theorem frz_deck : frz .deck = .deck := by simp [frz]
@[simp] theorem frz_0 : frz (.ow []) = .im (.list []) := by simp [frz, toDs]
end
section
variable {d : D} {ds : List D} {i : Int} {b : Bool} {x : Str} {kv : List (D × D)}
@[simp] theorem sh_def : SeqAt.shaped d = (d.canLay0 && decide (d.depth ≤ 64)) := rfl
@[simp] theorem cl_n : PyData.canLay0 .none = true := by simp only [PyData.canLay0]
@[simp] theorem cl_b : PyData.canLay0 (.bool b) = true := by simp only [PyData.canLay0]
@[simp] theorem cl_i : PyData.canLay0 (.int i) = true := by simp only [PyData.canLay0]
@[simp] theorem cl_s : PyData.canLay0 (.str x) = PyData.strOk x := by simp only [PyData.canLay0]
@[simp] theorem cl_l : PyData.canLay0 (.list ds) = PyData.canLayAll0 ds := by simp only [PyData.canLay0]
@[simp] theorem cl_t : PyData.canLay0 (.tuple ds) = PyData.canLayAll0 ds := by simp only [PyData.canLay0]
@[simp] theorem cl_d : PyData.canLay0 (.dict kv) = false := by simp only [PyData.canLay0]
@[simp] theorem cla_0 : PyData.canLayAll0 [] = true := by simp only [PyData.canLayAll0]
@[simp] theorem cla_c : PyData.canLayAll0 (d :: ds) = (d.canLay0 && PyData.canLayAll0 ds) := by simp only [PyData.canLayAll0]
@[simp] theorem dp_n : PyData.depth .none = 0 := by simp only [PyData.depth]
@[simp] theorem dp_b : PyData.depth (.bool b) = 0 := by simp only [PyData.depth]
@[simp] theorem dp_i : PyData.depth (.int i) = 0 := by simp only [PyData.depth]
@[simp] theorem dp_s : PyData.depth (.str x) = 0 := by simp only [PyData.depth]
@[simp] theorem dp_l : PyData.depth (.list ds) = PyData.depthAll ds + 1 := by simp only [PyData.depth]
@[simp] theorem dp_t : PyData.depth (.tuple ds) = PyData.depthAll ds + 1 := by simp only [PyData.depth]
@[simp] theorem dpa_0 : PyData.depthAll [] = 0 := by simp only [PyData.depthAll]
@[simp] theorem dpa_c : PyData.depthAll (d :: ds) = max d.depth (PyData.depthAll ds) := by simp only [PyData.depthAll]
end
@[simp] theorem eqv_nn   : PyData.eqv (PyData.none) (PyData.none) = true := by simp [PyData.eqv]
@[simp] theorem eqv_nb  (y : Bool) : PyData.eqv (PyData.none) (PyData.bool y) = false := by simp [PyData.eqv]
@[simp] theorem eqv_ni  (y : Int) : PyData.eqv (PyData.none) (PyData.int y) = false := by simp [PyData.eqv]
@[simp] theorem eqv_ns  (y : Str) : PyData.eqv (PyData.none) (PyData.str y) = false := by simp [PyData.eqv]
@[simp] theorem eqv_nl  (y : List D) : PyData.eqv (PyData.none) (PyData.list y) = false := by simp [PyData.eqv]
@[simp] theorem eqv_nt  (y : List D) : PyData.eqv (PyData.none) (PyData.tuple y) = false := by simp [PyData.eqv]
@[simp] theorem eqv_bn (x : Bool)  : PyData.eqv (PyData.bool x) (PyData.none) = false := by simp [PyData.eqv]
@[simp] theorem eqv_bb (x : Bool) (y : Bool) : PyData.eqv (PyData.bool x) (PyData.bool y) = (x == y) := by simp [PyData.eqv]
@[simp] theorem eqv_bi (x : Bool) (y : Int) : PyData.eqv (PyData.bool x) (PyData.int y) = ((if x = true then 1 else 0) == y) := by simp [PyData.eqv]
@[simp] theorem eqv_bs (x : Bool) (y : Str) : PyData.eqv (PyData.bool x) (PyData.str y) = false := by simp [PyData.eqv]
@[simp] theorem eqv_bl (x : Bool) (y : List D) : PyData.eqv (PyData.bool x) (PyData.list y) = false := by simp [PyData.eqv]
@[simp] theorem eqv_bt (x : Bool) (y : List D) : PyData.eqv (PyData.bool x) (PyData.tuple y) = false := by simp [PyData.eqv]
@[simp] theorem eqv_in (x : Int)  : PyData.eqv (PyData.int x) (PyData.none) = false := by simp [PyData.eqv]
@[simp] theorem eqv_ib (x : Int) (y : Bool) : PyData.eqv (PyData.int x) (PyData.bool y) = (x == if y = true then 1 else 0) := by simp [PyData.eqv]
@[simp] theorem eqv_ii (x : Int) (y : Int) : PyData.eqv (PyData.int x) (PyData.int y) = (x == y) := by simp [PyData.eqv]
@[simp] theorem eqv_is (x : Int) (y : Str) : PyData.eqv (PyData.int x) (PyData.str y) = false := by simp [PyData.eqv]
@[simp] theorem eqv_il (x : Int) (y : List D) : PyData.eqv (PyData.int x) (PyData.list y) = false := by simp [PyData.eqv]
@[simp] theorem eqv_it (x : Int) (y : List D) : PyData.eqv (PyData.int x) (PyData.tuple y) = false := by simp [PyData.eqv]
@[simp] theorem eqv_sn (x : Str)  : PyData.eqv (PyData.str x) (PyData.none) = false := by simp [PyData.eqv]
@[simp] theorem eqv_sb (x : Str) (y : Bool) : PyData.eqv (PyData.str x) (PyData.bool y) = false := by simp [PyData.eqv]
@[simp] theorem eqv_si (x : Str) (y : Int) : PyData.eqv (PyData.str x) (PyData.int y) = false := by simp [PyData.eqv]
@[simp] theorem eqv_ss (x : Str) (y : Str) : PyData.eqv (PyData.str x) (PyData.str y) = (x == y) := by simp [PyData.eqv]
@[simp] theorem eqv_sl (x : Str) (y : List D) : PyData.eqv (PyData.str x) (PyData.list y) = false := by simp [PyData.eqv]
@[simp] theorem eqv_st (x : Str) (y : List D) : PyData.eqv (PyData.str x) (PyData.tuple y) = false := by simp [PyData.eqv]
@[simp] theorem eqv_ln (x : List D)  : PyData.eqv (PyData.list x) (PyData.none) = false := by simp [PyData.eqv]
@[simp] theorem eqv_lb (x : List D) (y : Bool) : PyData.eqv (PyData.list x) (PyData.bool y) = false := by simp [PyData.eqv]
@[simp] theorem eqv_li (x : List D) (y : Int) : PyData.eqv (PyData.list x) (PyData.int y) = false := by simp [PyData.eqv]
@[simp] theorem eqv_ls (x : List D) (y : Str) : PyData.eqv (PyData.list x) (PyData.str y) = false := by simp [PyData.eqv]
@[simp] theorem eqv_ll (x : List D) (y : List D) : PyData.eqv (PyData.list x) (PyData.list y) = PyData.eqvAll x y := by simp [PyData.eqv]
@[simp] theorem eqv_lt (x : List D) (y : List D) : PyData.eqv (PyData.list x) (PyData.tuple y) = false := by simp [PyData.eqv]
@[simp] theorem eqv_tn (x : List D)  : PyData.eqv (PyData.tuple x) (PyData.none) = false := by simp [PyData.eqv]
@[simp] theorem eqv_tb (x : List D) (y : Bool) : PyData.eqv (PyData.tuple x) (PyData.bool y) = false := by simp [PyData.eqv]
@[simp] theorem eqv_ti (x : List D) (y : Int) : PyData.eqv (PyData.tuple x) (PyData.int y) = false := by simp [PyData.eqv]
@[simp] theorem eqv_ts (x : List D) (y : Str) : PyData.eqv (PyData.tuple x) (PyData.str y) = false := by simp [PyData.eqv]
@[simp] theorem eqv_tl (x : List D) (y : List D) : PyData.eqv (PyData.tuple x) (PyData.list y) = false := by simp [PyData.eqv]
@[simp] theorem eqv_tt (x : List D) (y : List D) : PyData.eqv (PyData.tuple x) (PyData.tuple y) = PyData.eqvAll x y := by simp [PyData.eqv]
@[simp] theorem eqvA_0 : PyData.eqvAll [] [] = true := by simp [PyData.eqvAll]
@[simp] theorem eqvA_1 (d : D) (ds : List D) : PyData.eqvAll (d :: ds) [] = false := by simp [PyData.eqvAll]
@[simp] theorem eqvA_2 (d : D) (ds : List D) : PyData.eqvAll [] (d :: ds) = false := by simp [PyData.eqvAll]
@[simp] theorem eqvA_c (d e : D) (ds es : List D) : PyData.eqvAll (d :: ds) (e :: es) = (PyData.eqv d e && PyData.eqvAll ds es) := by simp [PyData.eqvAll]
mutual
/-- no dict within, no text beyond the line, not deep -/
def okD : D → Bool
  | .dict _ => false
  | .str x => PyData.strOk x
  | .list xs => okDs xs
  | .tuple xs => okDs xs
  | _ => true
def okDs : List D → Bool
  | [] => true
  | x :: xs => okD x && okDs xs
end
theorem forGo_ind {G : XG} {T : XS} {E : XEnds} {I : List D → List Cell → Prop} (h0 : ∀ γ, I [] γ → E.nx γ) (hs : ∀ d rest γ, I (d :: rest) γ → ∀ nx : List Cell → Prop, (∀ γ', I rest γ' → nx γ') → G d γ fun γ2 => T { E with nx := nx, ct := nx, bk := E.nx } γ2) : ∀ ds γ, I ds γ → forGo G T E ds γ
  | [], γ, h => h0 γ h
  | d :: ds, γ, h => hs d ds γ h _ fun γ' h' => forGo_ind h0 hs ds γ' h'
theorem compGo_ind {G : XG} {U : XT} {T : XE} {γ : List Cell} {K : Cell → Prop} {I : List D → List Cell → Prop} (h0 : ∀ acc, I [] acc → K (.ow acc))
    (hs : ∀ d rest acc, I (d :: rest) acc → ∀ (K1 : Cell → Prop) (K0 : Prop), (∀ c, I rest (acc ++ [c]) → K1 c) → (I rest acc → K0) → G d γ fun γ2 => U γ2 fun b => if b = true then T γ2 K1 else K0) : ∀ ds acc, I ds acc → compGo G U T γ K ds acc
  | [], acc, h => h0 acc h
  | d :: ds, acc, h => hs d ds acc h _ _ (fun c h' => compGo_ind h0 hs ds _ h') fun h' => compGo_ind h0 hs ds _ h'
/-- the items of an encoded list, one by one -/
theorem forGo_enc {α : Type} (enc : α → D) {G : XG} {T : XS} {E : XEnds} {I : List α → List Cell → Prop} (h0 : ∀ γ, I [] γ → E.nx γ) (hs : ∀ x rest γ, I (x :: rest) γ → ∀ nx : List Cell → Prop, (∀ γ', I rest γ' → nx γ') → G (enc x) γ fun γ2 => T { E with nx := nx, ct := nx, bk := E.nx } γ2) : ∀ xs γ, I xs γ → forGo G T E (xs.map enc) γ
  | [], γ, h => h0 γ h
  | x :: xs, γ, h => hs x xs γ h _ fun γ' h' => forGo_enc enc h0 hs xs γ' h'
/-- .. kept as the state of a fold -/
theorem forGo_fold {α β : Type} (enc : α → D) (f : β → α → β) (st : β → List Cell → Prop) {G : XG} {T : XS} {E : XEnds} (b0 : β) (xs : List α) (γ : List Cell) (h : st b0 γ) (hs : ∀ x ∈ xs, ∀ b γ, st b γ → ∀ nx : List Cell → Prop, (∀ γ', st (f b x) γ' → nx γ') → G (enc x) γ fun γ2 => T { E with nx := nx, ct := nx, bk := E.nx } γ2)
    (he : ∀ γ, st (xs.foldl f b0) γ → E.nx γ) : forGo G T E (xs.map enc) γ := by
  induction xs generalizing b0 γ with
  | nil => exact he γ h
  | cons x xs ih => exact hs x List.mem_cons_self b0 γ h _ fun γ' h' => ih (f b0 x) γ' h' (fun y m => hs y (List.mem_cons_of_mem _ m)) he
theorem compGo_fm {α : Type} (enc : α → D) (p : α → Bool) (g : α → D) {G : XG} {U : XT} {T : XE} {γ : List Cell} {K : Cell → Prop} (xs : List α) (h : ∀ x ∈ xs, ∀ (K1 : Cell → Prop) (K0 : Prop), (p x = true → K1 (.im (g x))) → (p x = false → K0) → G (enc x) γ fun γ2 => U γ2 fun b => if b = true then T γ2 K1 else K0)
    (hk : K (.ow (((xs.filter p).map g).map .im))) : compGo G U T γ K (xs.map enc) [] := by
  have key : ∀ (xs : List α) (acc : List D), (∀ x ∈ xs, ∀ (K1 : Cell → Prop) (K0 : Prop), (p x = true → K1 (.im (g x))) → (p x = false → K0) → G (enc x) γ fun γ2 => U γ2 fun b => if b = true then T γ2 K1 else K0) → K (.ow ((acc ++ (xs.filter p).map g).map .im)) → compGo G U T γ K (xs.map enc) (acc.map .im) := by
    intro xs
    induction xs with
    | nil => intro acc _ hk; simpa [compGo] using hk
    | cons x xs ih =>
      intro acc h hk
      refine h x List.mem_cons_self _ _ (fun hp => ?_) fun hp => ?_
      · have := ih (acc ++ [g x]) (fun y m => h y (List.mem_cons_of_mem _ m)) (by simpa [List.filter_cons, hp] using hk)
        simpa using this
      · exact ih acc (fun y m => h y (List.mem_cons_of_mem _ m)) (by simpa [List.filter_cons, hp] using hk)
  exact key xs [] h (by simpa using hk)
theorem compGo_map {α : Type} (enc : α → D) (g : α → D) {G : XG} {U : XT} {T : XE} {γ : List Cell} {K : Cell → Prop} (xs : List α) (h : ∀ x ∈ xs, ∀ (K1 : Cell → Prop) (K0 : Prop), K1 (.im (g x)) → G (enc x) γ fun γ2 => U γ2 fun b => if b = true then T γ2 K1 else K0)
    (hk : K (.ow ((xs.map g).map .im))) : compGo G U T γ K (xs.map enc) [] :=
  compGo_fm enc (fun _ => true) g xs (fun x m K1 K0 h1 _ => h x m K1 K0 (h1 rfl)) (by rw [List.filter_eq_self.mpr fun _ _ => rfl]; exact hk)
theorem cAll_of {α : Type} (p : α → Bool) (xs : List α) {Q : Cell → Prop} (h : Q (.im (.bool (xs.all p)))) : cAll [.ow ((xs.map fun x => PyData.bool (p x)).map .im)] Q :=
  ⟨_, xs.map p, rfl, by rw [lstF_ow, List.map_map]; rfl, by simpa [List.all_map] using h⟩
theorem ixN_nat {n k : Nat} (h : k < n) : ixN n (k : Int) = some k := by
  unfold ixN
  rw [if_pos (by omega), if_pos (by omega)]
  simp
theorem atI_nat {α : Type} {xs : List α} {k : Nat} (h : k < xs.length) : atI xs (k : Int) = some xs[k] := by
  unfold atI
  rw [ixN_nat h]
  simp [h]
@[simp] theorem at0 {α : Type} {a : α} {r : List α} : atI (a :: r) 0 = some a := by
  have := atI_nat (xs := a :: r) (k := 0) (by simp)
  simpa using this
@[simp] theorem at1 {α : Type} {a b : α} {r : List α} : atI (a :: b :: r) 1 = some b := by
  have := atI_nat (xs := a :: b :: r) (k := 1) (by simp)
  simpa using this
@[simp] theorem at2 {α : Type} {a b c : α} {r : List α} : atI (a :: b :: c :: r) 2 = some c := by
  have := atI_nat (xs := a :: b :: c :: r) (k := 2) (by simp)
  simpa using this
end DL
set_option maxHeartbeats 1000000
namespace DL
open PySem PySem.Spec PyProof.Rows L2
theorem sIx_k (n d k : Nat) : HT.sIx n d (some (k : Int)) = min k n := HT.sIx_nat n d k
@[simp] theorem cut_all {α : Type} (xs : List α) : cut xs none none = xs := by
  unfold cut
  rw [HT.sIx_none, HT.sIx_none]
  simp
theorem cut_from {α : Type} (xs : List α) (k : Nat) : cut xs (some (k : Int)) none = xs.drop k := by
  unfold cut
  rw [sIx_k, HT.sIx_none]
  by_cases h : k ≤ xs.length
  · rw [Nat.min_eq_left h, ← List.length_drop, List.take_length]
  · rw [Nat.min_eq_right (by omega), List.drop_length, List.drop_of_length_le (by omega)]; simp
theorem cut_to {α : Type} (xs : List α) (k : Nat) : cut xs none (some (k : Int)) = xs.take k := by
  unfold cut
  rw [sIx_k, HT.sIx_none]
  by_cases h : k ≤ xs.length
  · rw [Nat.min_eq_left h]; simp
  · rw [Nat.min_eq_right (by omega), List.drop_zero, Nat.sub_zero, List.take_length, List.take_of_length_le (by omega)]
@[simp] theorem cut_1 {α : Type} (xs : List α) : cut xs (some 1) none = xs.tail := by rw [show (some 1 : Option Int) = some ((1 : Nat) : Int) from rfl, cut_from, List.drop_one]
theorem zipD_map {α β : Type} (f : α → D) (g : β → D) (xs : List α) (ys : List β) : zipD (xs.map f) (ys.map g) = (xs.zip ys).map fun p => .tuple [f p.1, g p.2] := by
  unfold zipD
  rw [List.zip_map, List.map_map]
  rfl
theorem enumD_map {α : Type} (f : α → D) (xs : List α) : enumD (xs.map f) = xs.zipIdx.map fun p => .tuple [.int (p.2 : Nat), f p.1] := by
  unfold enumD
  rw [List.zipIdx_map, List.map_map]
  rfl
/-- neighbours in a list of which each is behind the one ahead -/
theorem pair_next {α : Type} {R : α → α → Prop} : ∀ {xs : List α}, xs.Pairwise R → ∀ p ∈ xs.zip xs.tail, R p.1 p.2
  | [], _, p, m => by simp at m
  | [x], _, p, m => by simp at m
  | x :: y :: r, h, p, m => by
    obtain ⟨h1, h2⟩ := List.pairwise_cons.mp h
    have m' : p ∈ (x, y) :: (y :: r).zip (y :: r).tail := by simpa using m
    rcases List.mem_cons.mp m' with e | m'
    · subst e; exact h1 _ (by simp)
    · exact pair_next h2 p m'
theorem zip_next_map {α : Type} (f : α → D) (xs : List α) : zipD (xs.map f) (xs.map f).tail = (xs.zip xs.tail).map fun p => .tuple [f p.1, f p.2] := by
  rw [← List.map_tail, zipD_map]
/-- all of bools that all hold -/
theorem lstF_trues {α : Type} (xs : List α) : lstF (.ow ((xs.map fun _ => PyData.bool true).map .im)) = some ((xs.map fun _ => true).map PyData.bool) := by
  rw [lstF_ow, List.map_map]; rfl
@[simp] theorem all_const {α : Type} (xs : List α) : (xs.all fun _ => true) = true := by simp [List.all_eq_true]
theorem bool_to {K : Cell → Prop} {b : Bool} (e : b = true) (h : K (.im (.bool true))) : K (.im (.bool b)) := by rw [e]; exact h
theorem no_false {α : Type} (xs : List α) : ¬ false ∈ xs.map fun _ => true := by simp
theorem all_trues {α : Type} (xs : List α) : (xs.map fun _ => true).all id = true := by simp
/-- [.. for ..] of bools that all hold, and what follows -/
theorem comp_trues {α : Type} (enc : α → D) {G : XG} {U : XT} {T : XE} {γ : List Cell} {K : Cell → Prop} (xs : List α) (h : ∀ x ∈ xs, ∀ (K1 : Cell → Prop) (K0 : Prop), K1 (.im (.bool true)) → G (enc x) γ fun γ2 => U γ2 fun b => if b = true then T γ2 K1 else K0)
    (hk : K (.ow ((xs.map fun _ => PyData.bool true).map .im))) : compGo G U T γ K (xs.map enc) [] := compGo_map enc (fun _ => .bool true) xs h hk
end DL
set_option maxHeartbeats 1000000
namespace DL
open PySem PySem.Spec PyProof.Rows L2
theorem band_nat (a b : Nat) : Builtin.bitAnd (a : Int) (b : Int) = ((a &&& b : Nat) : Int) := by
  unfold Builtin.bitAnd
  simp
theorem bnot_bnot (x : Int) : Builtin.bitNot (Builtin.bitNot x) = x := by unfold Builtin.bitNot; omega
theorem bor_nat (a b : Nat) : Builtin.bitOr (a : Int) (b : Int) = ((a ||| b : Nat) : Int) := by
  unfold Builtin.bitOr Builtin.bitAnd
  have h1 : decide (0 ≤ Builtin.bitNot (a : Int)) = false := by unfold Builtin.bitNot; simp; omega
  have h2 : decide (0 ≤ Builtin.bitNot (b : Int)) = false := by unfold Builtin.bitNot; simp; omega
  rw [h1, h2]
  simp only [bnot_bnot, Int.toNat_natCast]
theorem shr_nat (m k : Nat) : (m : Int) / 2 ^ ((k : Int)).toNat = ((m / 2 ^ k : Nat) : Int) := by
  rw [Int.toNat_natCast]
  simp
theorem one_shl (k : Nat) : (1 : Int) * 2 ^ ((k : Int)).toNat = ((2 ^ k : Nat) : Int) := by
  rw [Int.toNat_natCast]
  simp
theorem bit_at (m k : Nat) : Builtin.bitAnd ((m / 2 ^ k : Nat) : Int) 1 = if m.testBit k = true then 1 else 0 := by
  rw [show (1 : Int) = ((1 : Nat) : Int) from rfl, band_nat, Nat.and_one_is_mod, Nat.testBit_eq_decide_div_mod_eq]
  by_cases h : m / 2 ^ k % 2 = 1
  · simp [h]
  · have : m / 2 ^ k % 2 = 0 := by omega
    simp [this]
/-- .. as simp leaves it -/
theorem bit_at' (m k : Nat) : Builtin.bitAnd ((m : Int) / 2 ^ k) 1 = if m.testBit k = true then 1 else 0 := by
  rw [← bit_at]; simp
theorem add_disj : ∀ (n a b : Nat), a < 2 ^ n → a &&& b = 0 → a + b = a ||| b
  | 0, a, b, h, _ => by
    have : a = 0 := by omega
    subst this; simp
  | n + 1, a, b, h, e => by
    have e2 : (a / 2) &&& (b / 2) = 0 := by rw [← Nat.and_div_two, e]
    have ih := add_disj n (a / 2) (b / 2) (by rw [Nat.pow_succ] at h; omega) e2
    rw [← Nat.or_div_two] at ih
    have m0 : ¬ (a % 2 = 1 ∧ b % 2 = 1) := by
      rw [← Nat.and_mod_two_eq_one, e]; simp
    have m1 := Nat.or_mod_two_eq_one (a := a) (b := b)
    have d := Nat.div_add_mod (a ||| b) 2
    by_cases ha : a % 2 = 1
    · have := m1.mpr (.inl ha)
      omega
    · by_cases hb : b % 2 = 1
      · have := m1.mpr (.inr hb)
        omega
      · have : ¬ (a ||| b) % 2 = 1 := fun z => (m1.mp z).elim ha hb
        omega
theorem xor_and (x m : Nat) : x - (x &&& m) = x ^^^ (x &&& m) := by
  have h : (x &&& m) + (x ^^^ (x &&& m)) = x := by
    have h1 : (x &&& m) &&& (x ^^^ (x &&& m)) = 0 := by
      apply Nat.eq_of_testBit_eq
      intro i
      simp only [Nat.testBit_and, Nat.testBit_xor, Nat.zero_testBit]
      cases x.testBit i <;> cases m.testBit i <;> rfl
    have h2 : (x &&& m) ||| (x ^^^ (x &&& m)) = x := by
      apply Nat.eq_of_testBit_eq
      intro i
      simp only [Nat.testBit_or, Nat.testBit_and, Nat.testBit_xor]
      cases x.testBit i <;> cases m.testBit i <;> rfl
    have h3 := add_disj (x &&& m) (x &&& m) (x ^^^ (x &&& m)) Nat.lt_two_pow_self h1
    rw [h3, h2]
  omega
theorem sub_nat (x m : Nat) : (x : Int) - Builtin.bitAnd (x : Int) (m : Int) = ((x ^^^ (x &&& m) : Nat) : Int) := by
  rw [band_nat, ← xor_and]
  have : x &&& m ≤ x := Nat.and_le_left
  omega
theorem cpow_one (k : Nat) (h : k ≤ 1000000) : CPow 1 (k : Int) := ⟨by omega, by omega, by decide⟩
end DL
set_option maxHeartbeats 1000000
namespace DL
open PySem PySem.Spec PyProof.Rows L2
def nats (f : List Nat) : List D := f.map fun x => .int (x : Nat)
@[simp] theorem nats_len (f : List Nat) : (nats f).length = f.length := by simp [nats]
theorem nats_at {f : List Nat} {k : Nat} (h : k < f.length) : atI (nats f) (k : Int) = some (.int (f.getD k 0 : Nat)) := by
  rw [atI_nat (by simpa using h)]
  simp [nats, List.getD_eq_getElem?_getD, h]
theorem natsC_at {f : List Nat} {k : Nat} (h : k < f.length) : atI ((nats f).map Cell.im) (k : Int) = some (.im (.int (f.getD k 0 : Nat))) := by
  rw [atI_nat (by simpa using h)]
  simp [nats, List.getD_eq_getElem?_getD, h]
theorem natsC_set (f : List Nat) (j v : Nat) : ((nats f).map Cell.im).set j (.im (.int (v : Nat))) = (nats (f.set j v)).map Cell.im := by
  unfold nats
  rw [List.map_map, List.map_map, List.map_set]
  rfl
@[simp] theorem nats_range (n : Nat) : (List.range n).map (fun i => PyData.int (i : Nat)) = nats (List.range n) := rfl
theorem getD_set (f : List Nat) (j v k : Nat) (h : j < f.length) : (f.set j v).getD k 0 = if k = j then v else f.getD k 0 := by
  rw [List.getD_eq_getElem?_getD, List.getD_eq_getElem?_getD, List.getElem?_set]
  by_cases e : j = k
  · subst e; simp [h]
  · have e' : ¬ k = j := fun z => e z.symm
    simp [e, e']
/-- n as an int of the model -/
theorem toNat_sub (a b : Nat) : ((b : Int) - (a : Int)).toNat = b - a := by omega
end DL
set_option maxHeartbeats 1000000
namespace DL
open PySem PySem.Spec PyProof.Rows L2
theorem le_size {n : Nat} (h : n ≤ 1000) : n ≤ sizeLine := Nat.le_trans h (by decide)
theorem lt_size {n : Nat} (h : n < 1000) : n < sizeLine := Nat.lt_of_lt_of_le h (by decide)
@[simp] theorem sz1 : 1 ≤ sizeLine := by decide
@[simp] theorem sz2 : 2 ≤ sizeLine := by decide
@[simp] theorem sz3 : 3 ≤ sizeLine := by decide
@[simp] theorem sz4 : 4 ≤ sizeLine := by decide
@[simp] theorem sz5 : 5 ≤ sizeLine := by decide
@[simp] theorem sz6 : 6 ≤ sizeLine := by decide
@[simp] theorem sz7 : 7 ≤ sizeLine := by decide
@[simp] theorem sz8 : 8 ≤ sizeLine := by decide
@[simp] theorem sz9 : 9 ≤ sizeLine := by decide
@[simp] theorem sz10 : 10 ≤ sizeLine := by decide
@[simp] theorem sz11 : 11 ≤ sizeLine := by decide
@[simp] theorem sz12 : 12 ≤ sizeLine := by decide
theorem inGo_fm {α : Type} (enc : α → D) (p : α → Bool) (g : α → D) {G : XG} {U : XT} {T : XE} {γ : List Cell} {K : List Cell → Prop} : ∀ (xs : List α) (acc : List D), (∀ x ∈ xs, ∀ (K1 : Cell → Prop) (K0 : Prop), (p x = true → K1 (.im (g x))) → (p x = false → K0) → G (enc x) γ fun γ2 => U γ2 fun b => if b = true then T γ2 K1 else K0) →
    acc.length + xs.length ≤ sizeLine → K ((acc ++ (xs.filter p).map g).map .im) → inGo G U T γ K (xs.map enc) (acc.map .im)
  | [], acc, _, _, hk => by simpa [inGo] using hk
  | x :: xs, acc, h, hl, hk => by
    have hl' : acc.length + (xs.length + 1) ≤ sizeLine := by simpa using hl
    refine h x List.mem_cons_self _ _ (fun hp => ?_) fun hp => ?_
    · refine ⟨by rw [List.length_map]; omega, ?_⟩
      have := inGo_fm enc p g (G := G) (U := U) (T := T) (γ := γ) (K := K) xs (acc ++ [g x]) (fun y m => h y (List.mem_cons_of_mem _ m)) (by simp; omega) (by simpa [List.filter_cons, hp] using hk)
      simpa using this
    · exact inGo_fm enc p g xs acc (fun y m => h y (List.mem_cons_of_mem _ m)) (by omega) (by simpa [List.filter_cons, hp] using hk)
theorem compGo2_fm {α β : Type} (enc1 : α → D) (enc2 : β → D) (ys : α → List β) (γx : α → List Cell) (p : α → β → Bool) (g : α → β → D) {G : XG} {U : XT} {W1 : XI} {G1 : XG} {U1 : XT} {T : XE} {vs1 : List Nat} {γ : List Cell} {K : Cell → Prop} (m : Nat) :
    ∀ (xs : List α) (acc : List D), (∀ x ∈ xs, ∀ (P : List D → List Cell → Prop) (P0 : Prop), P ((ys x).map enc2) (γx x) → G (enc1 x) γ fun γ2 => U γ2 fun b => if b = true then W1 γ2 fun es => P es γ2 else P0) →
    (∀ x ∈ xs, ∀ y ∈ ys x, ∀ (K1 : Cell → Prop) (K0 : Prop), (p x y = true → K1 (.im (g x y))) → (p x y = false → K0) → G1 (enc2 y) (wipeC (γx x) vs1) fun γ3 => U1 γ3 fun b => if b = true then T γ3 K1 else K0) →
    (∀ x ∈ xs, (ys x).length ≤ m) → acc.length + xs.length * m ≤ sizeLine → K (.ow ((acc ++ xs.flatMap fun x => ((ys x).filter (p x)).map (g x)).map .im)) → compGo2 G U W1 G1 U1 T vs1 γ K (xs.map enc1) (acc.map .im)
  | [], acc, _, _, _, _, hk => by simpa [compGo2] using hk
  | x :: xs, acc, h1, h2, h3, hl, hk => by
    have hl' : acc.length + (xs.length + 1) * m ≤ sizeLine := by simpa using hl
    have hx := h3 x List.mem_cons_self
    rw [Nat.add_mul, Nat.one_mul] at hl'
    refine h1 x List.mem_cons_self (fun es γ2 => inGo G1 U1 T (wipeC γ2 vs1) (fun acc' => compGo2 G U W1 G1 U1 T vs1 γ K (xs.map enc1) acc') es (acc.map .im)) _ ?_
    refine inGo_fm enc2 (p x) (g x) (ys x) acc (fun y my => h2 x List.mem_cons_self y my) (by omega) ?_
    have hf : ((ys x).filter (p x)).length ≤ m := Nat.le_trans (List.length_filter_le _ _) hx
    exact compGo2_fm enc1 enc2 ys γx p g m xs _ (fun y m => h1 y (List.mem_cons_of_mem _ m)) (fun y m => h2 y (List.mem_cons_of_mem _ m)) (fun y m => h3 y (List.mem_cons_of_mem _ m)) (by rw [List.length_append, List.length_map]; omega) (by simpa [List.append_assoc] using hk)
end DL
set_option maxHeartbeats 1000000
namespace DL
open PySem PySem.Spec PyProof.Rows L2
theorem layAll_map {α : Type} {f : α → D} {l : List α} (h : ∀ x ∈ l, PyData.canLay0 (f x) = true) : PyData.canLayAll0 (l.map f) = true := by
  induction l with
  | nil => rfl
  | cons x l ih => simp [h x List.mem_cons_self, ih fun y m => h y (List.mem_cons_of_mem _ m)]
theorem depAll_map {α : Type} {f : α → D} {l : List α} {m : Nat} (h : ∀ x ∈ l, PyData.depth (f x) ≤ m) : PyData.depthAll (l.map f) ≤ m := by
  induction l with
  | nil => simp
  | cons x l ih =>
    simp only [List.map_cons, PyData.depthAll]
    exact Nat.max_le.mpr ⟨h x List.mem_cons_self, ih fun y m => h y (List.mem_cons_of_mem _ m)⟩
@[simp] theorem layAll_nat (l : List Nat) : PyData.canLayAll0 (l.map fun x => PyData.int (x : Nat)) = true := layAll_map fun _ _ => by simp
@[simp] theorem depAll_nat (l : List Nat) : PyData.depthAll (l.map fun x => PyData.int (x : Nat)) = 0 := Nat.le_zero.mp (depAll_map fun _ _ => by simp)
@[simp] theorem layAll_str (l : List Str) : PyData.canLayAll0 (l.map PyData.str) = l.all fun x => PyData.canLay0 (.str x) := by
  induction l with
  | nil => rfl
  | cons x l ih => simp [ih]
@[simp] theorem depAll_str (l : List Str) : PyData.depthAll (l.map PyData.str) = 0 := Nat.le_zero.mp (depAll_map fun _ _ => by simp)
theorem any_nat (l : List Nat) (a : Nat) : ((l.map fun x => PyData.int (x : Nat)).any fun z => PyData.eqv z (.int (a : Nat))) = decide (a ∈ l) := by
  rw [Bool.eq_iff_iff]
  simp
  exact ⟨fun ⟨x, m, e⟩ => (show x = a by omega) ▸ m, fun m => ⟨a, m, rfl⟩⟩
theorem any_str (l : List Str) (a : Str) : ((l.map PyData.str).any fun z => PyData.eqv z (.str a)) = decide (a ∈ l) := by
  rw [Bool.eq_iff_iff]
  simp
@[simp] theorem ex_nat (l : List Nat) (a : Nat) : (∃ z, z ∈ l.map (fun x => PyData.int (x : Nat)) ∧ PyData.eqv z (.int (a : Nat)) = true) ↔ a ∈ l := by
  rw [← List.any_eq_true (p := fun z => PyData.eqv z (.int (a : Nat))), any_nat, decide_eq_true_iff]
@[simp] theorem ex_str (l : List Str) (a : Str) : (∃ z, z ∈ l.map PyData.str ∧ PyData.eqv z (.str a) = true) ↔ a ∈ l := by
  rw [← List.any_eq_true (p := fun z => PyData.eqv z (.str a)), any_str, decide_eq_true_iff]
end DL
set_option maxHeartbeats 1000000
namespace DL
open PySem PySem.Spec PyProof.Rows L2
open PySem.W (alike alikeAll keyToks keyToksAll AllAlike Sortable dataLt dataLe)
def sumPow (l : List Nat) : Nat := (l.map fun x => 2 ^ x).sum
theorem sumPow_bit : ∀ {l : List Nat}, l.Nodup → ∀ a, (sumPow l).testBit a = true ↔ a ∈ l
  | [], _, a => by simp [sumPow]
  | x :: l, h, a => by
    obtain ⟨h1, h2⟩ := List.nodup_cons.mp h
    have ih := sumPow_bit h2
    have e : sumPow (x :: l) = 2 ^ x ||| sumPow l := by
      show 2 ^ x + sumPow l = _
      refine add_disj (x + 1) _ _ (Nat.pow_lt_pow_right (by decide) (by omega)) ?_
      apply Nat.eq_of_testBit_eq
      intro i
      rw [Nat.testBit_and, Nat.testBit_two_pow, Nat.zero_testBit]
      by_cases e : x = i
      · subst e
        have : (sumPow l).testBit x = false := by
          cases q : (sumPow l).testBit x with
          | false => rfl
          | true => exact absurd ((ih x).mp q) h1
        simp [this]
      · simp [e]
    rw [e, Nat.testBit_or, Bool.or_eq_true, ih, Nat.testBit_two_pow, decide_eq_true_iff, List.mem_cons, eq_comm]
theorem sumPow_int (l : List Nat) : (l.map fun x => (2 : Int) ^ x).sum = ((sumPow l : Nat) : Int) := by
  unfold sumPow
  induction l with
  | nil => rfl
  | cons x l ih => simp [ih]
mutual
theorem dataLt_ltB : ∀ d e : D, alike d e = true → ordB d e = true → dataLt d e = ltB d e
  | .int i, .int j, _, _ => by rw [PySem.W.dataLt_int]; simp [ltB]
  | .str a, .str b, _, _ => by rw [PySem.W.dataLt_str]; simp [ltB]
  | .tuple xs, .tuple ys, h, h2 => by
    rw [PySem.W.dataLt_tuple]
    simp only [ltB]
    exact dataLts xs ys (by simpa [alike] using h) (by simpa [ordB] using h2)
  | .none, e, _, h => by cases e <;> simp [ordB] at h
  | .bool _, e, _, h => by cases e <;> simp [ordB] at h
  | .list _, e, _, h => by cases e <;> simp [ordB] at h
  | .dict _, e, _, h => by cases e <;> simp [ordB] at h
  | .int _, .none, _, h => by simp [ordB] at h
  | .int _, .bool _, _, h => by simp [ordB] at h
  | .int _, .str _, _, h => by simp [ordB] at h
  | .int _, .list _, _, h => by simp [ordB] at h
  | .int _, .tuple _, _, h => by simp [ordB] at h
  | .int _, .dict _, _, h => by simp [ordB] at h
  | .str _, .none, _, h => by simp [ordB] at h
  | .str _, .bool _, _, h => by simp [ordB] at h
  | .str _, .int _, _, h => by simp [ordB] at h
  | .str _, .list _, _, h => by simp [ordB] at h
  | .str _, .tuple _, _, h => by simp [ordB] at h
  | .str _, .dict _, _, h => by simp [ordB] at h
  | .tuple _, .none, _, h => by simp [ordB] at h
  | .tuple _, .bool _, _, h => by simp [ordB] at h
  | .tuple _, .int _, _, h => by simp [ordB] at h
  | .tuple _, .str _, _, h => by simp [ordB] at h
  | .tuple _, .list _, _, h => by simp [ordB] at h
  | .tuple _, .dict _, _, h => by simp [ordB] at h
theorem dataLts : ∀ xs ys : List D, alikeAll xs ys = true → ordBs xs ys = true → PyProof.Rows.lexLt itemOrd (keyToksAll xs) (keyToksAll ys) = ltBs xs ys
  | [], [], _, _ => by simp only [keyToksAll, ltBs]; exact lex_irrefl (O := itemOrd) _
  | [], y :: ys, _, _ => by
    simp only [keyToksAll, ltBs]
    exact (lex_true (O := itemOrd)).mpr (.inl (by decide))
  | x :: xs, [], _, _ => by
    simp only [keyToksAll, ltBs]
    exact (lex_false (O := itemOrd)).mpr ⟨by decide, .inl (by decide)⟩
  | x :: xs, y :: ys, h, h2 => by
    obtain ⟨a1, a2⟩ := PySem.W.alike_all_cons h
    simp only [ordBs, Bool.and_eq_true, Bool.or_eq_true] at h2
    simp only [ltBs]
    by_cases e : PyData.eqv x y = true
    · rw [PySem.W.dataLt_all_yes a1 e, if_pos e]
      exact dataLts xs ys a2 h2.2
    · have e' : PyData.eqv x y = false := by simpa using e
      rw [PySem.W.dataLt_all_no a1 e', if_neg e]
      exact dataLt_ltB x y a1 (h2.1.resolve_left e)
end
theorem eqv_of_toks {x y : D} (h : alike x y = true) (e : keyToks x = keyToks y) : PyData.eqv x y = true := by
  cases q : PyData.eqv x y with
  | true => rfl
  | false =>
    have := (PySem.W.toks_eqv x y h).2 q [] [.inl 0]
    rw [e, PySem.W.lex_pre, lex_irrefl] at this
    cases this
/-- sorted: the same data, ascending -/
theorem sortD_asc {ds : List D} (h1 : AllAlike ds) (h2 : ds.Pairwise fun a b => PyData.eqv a b = false ∧ PyData.eqv b a = false) : (sortD ds).Perm ds ∧ (sortD ds).Pairwise fun a b => dataLt a b = true := by
  have hp : (sortD ds).Perm ds := List.mergeSort_perm _ _
  refine ⟨hp, ?_⟩
  have neg : ∀ a b c : D, dataLt a c = true → dataLt a b = true ∨ dataLt b c = true := fun a b c h => lex_negTrans (O := itemOrd) _ (keyToks b) _ h
  have asy : ∀ a b : D, dataLt a b = true → dataLt b a = false := fun a b h => by
    cases r : dataLt b a with
    | false => rfl
    | true =>
      have := lex_trans (O := itemOrd) _ _ _ h r
      rw [lex_irrefl] at this
      cases this
  have el : ∀ a b : D, dataLe (β := D) false id a b = !dataLt b a := fun a b => rfl
  have s := List.pairwise_mergeSort (le := dataLe (β := D) false id) (fun a b c h1 h2 => by
    rw [el, Bool.not_eq_true'] at h1 h2 ⊢
    cases q : dataLt c a with
    | false => rfl
    | true =>
      rcases neg _ b _ q with z | z
      · rw [h2] at z; cases z
      · rw [h1] at z; cases z) (fun a b => by
    rw [el, el]
    cases q : dataLt b a with
    | false => rfl
    | true => rw [asy _ _ q]; rfl) ds
  have s2 : (sortD ds).Pairwise fun a b => PyData.eqv a b = false ∧ PyData.eqv b a = false := (hp.pairwise_iff (fun h => ⟨h.2, h.1⟩)).mpr h2
  have s3 : (sortD ds).Pairwise fun a b => a ∈ ds ∧ b ∈ ds := by
    rw [List.pairwise_iff_forall_sublist]
    intro a b hs
    exact ⟨hp.subset (hs.subset (by simp)), hp.subset (hs.subset (by simp))⟩
  refine ((List.Pairwise.and s s2).and s3).imp ?_
  rintro a b ⟨⟨p, q⟩, ma, mb⟩
  rw [el, Bool.not_eq_true'] at p
  cases r : dataLt a b with
  | true => rfl
  | false =>
    have e := lex_total (O := itemOrd) (keyToks a) (keyToks b) r p
    have := eqv_of_toks (h1 a ma b mb) e
    rw [q.1] at this; cases this
section
variable {κ : Type} [DecidableEq κ]
theorem getK_cons {k k' : κ} {ks : List κ} {c : Cell} {cs : List Cell} : getK (k :: ks) (c :: cs) k' = if k = k' then some c else getK ks cs k' := by
  unfold getK
  rw [List.zip_cons_cons, List.find?_cons]
  by_cases h : k = k'
  · subst h; simp
  · simp [h]
theorem getK_app {k k' : κ} {c : Cell} : ∀ {ks : List κ} {cs : List Cell}, ks.length = cs.length → k ∉ ks → getK (ks ++ [k]) (cs ++ [c]) k' = if k = k' then some c else getK ks cs k'
  | [], [], _, _ => by simp [getK_cons, getK]
  | a :: ks, b :: cs, l, m => by
    rw [List.cons_append, List.cons_append, getK_cons, getK_cons, getK_app (by simpa using l) (fun z => m (List.mem_cons_of_mem _ z))]
    by_cases h : a = k'
    · subst h
      have : ¬ k = a := fun z => m (by rw [z]; simp)
      simp [this]
    · simp [h]
theorem putC_new {ks : List κ} {cs : List Cell} {k : κ} {c : Cell} (h : k ∉ ks) : putC ks cs k c = (ks ++ [k], cs ++ [c]) := by
  unfold putC; rw [if_neg h]
end
theorem eqvAll_nat : ∀ a b : List Nat, PyData.eqvAll (a.map fun x => .int (x : Nat)) (b.map fun x => .int (x : Nat)) = decide (a = b)
  | [], [] => by simp
  | [], b :: bs => by simp
  | a :: as, [] => by simp
  | a :: as, b :: bs => by
    rw [List.map_cons, List.map_cons, eqvA_c, eqvAll_nat as bs, eqv_ii]
    by_cases h : a = b
    · subst h; simp
    · have : ((a : Int) == (b : Int)) = false := by simp; omega
      simp [this, h]
theorem alikeAll_nat : ∀ a b : List Nat, alikeAll (a.map fun x => .int (x : Nat)) (b.map fun x => .int (x : Nat)) = true
  | [], [] => by simp [alikeAll]
  | [], b :: bs => by simp [alikeAll]
  | a :: as, [] => by simp [alikeAll]
  | a :: as, b :: bs => by simp [alikeAll, alike, alikeAll_nat as bs]
theorem ordBs_nat : ∀ a b : List Nat, ordBs (a.map fun x => .int (x : Nat)) (b.map fun x => .int (x : Nat)) = true
  | [], [] => by simp [ordBs]
  | [], b :: bs => by simp [ordBs]
  | a :: as, [] => by simp [ordBs]
  | a :: as, b :: bs => by simp [ordBs, ordB, ordBs_nat as bs]
end DL
set_option maxHeartbeats 1000000
namespace DL
open PySem PySem.Spec PyProof.Rows L2
theorem forGo_pre {α β : Type} (enc : α → D) (f : β → α → β) (st : β → List Cell → Prop) {G : XG} {T : XS} {E : XEnds} (b0 : β) (xs : List α) (γ : List Cell) (h : st b0 γ)
    (hs : ∀ pre x rest, xs = pre ++ x :: rest → ∀ γ, st (pre.foldl f b0) γ → ∀ nx : List Cell → Prop, (∀ γ', st (f (pre.foldl f b0) x) γ' → nx γ') → G (enc x) γ fun γ2 => T { E with nx := nx, ct := nx, bk := E.nx } γ2)
    (he : ∀ γ, st (xs.foldl f b0) γ → E.nx γ) : forGo G T E (xs.map enc) γ := by
  refine forGo_enc enc (I := fun rest γ => ∃ pre, xs = pre ++ rest ∧ st (pre.foldl f b0) γ) ?_ ?_ xs γ ⟨[], rfl, h⟩
  · rintro γ ⟨pre, e, h⟩
    rw [List.append_nil] at e
    subst e
    exact he γ h
  · rintro x rest γ ⟨pre, e, h⟩ nx hn
    exact hs pre x rest e γ h nx fun γ' h' => hn γ' ⟨pre ++ [x], by simp [e], by rw [List.foldl_append]; exact h'⟩
theorem fold_mem {α β : Type} (f : List β → α → List β) (P : α → β → Prop) (h : ∀ l a b, b ∈ f l a ↔ b ∈ l ∨ P a b) : ∀ (xs : List α) (l : List β) (b : β), b ∈ xs.foldl f l ↔ b ∈ l ∨ ∃ a ∈ xs, P a b
  | [], l, b => by simp
  | x :: xs, l, b => by
    rw [List.foldl_cons, fold_mem f P h xs, h]
    simp [or_assoc]
theorem fold_len {α β : Type} (f : List β → α → List β) (m : Nat) (h : ∀ l a, (f l a).length ≤ l.length + m) : ∀ (xs : List α) (l : List β), (xs.foldl f l).length ≤ l.length + xs.length * m
  | [], l => by simp
  | x :: xs, l => by
    rw [List.foldl_cons, List.length_cons, Nat.add_mul]
    have h1 := fold_len f m h xs (f l x)
    have h2 := h l x
    omega
@[simp] theorem atI_last {α : Type} (xs : List α) (x : α) : atI (xs ++ [x]) (-1) = some x := by
  unfold atI ixN
  simp
  rw [if_pos (by omega), show (-1 + ((xs.length : Int) + 1)).toNat = xs.length by omega]
  simp
theorem atI_last_map {α : Type} (f : α → Cell) (xs : List α) (x : α) : atI ((xs ++ [x]).map f) (-1) = some (f x) := by
  rw [List.map_append, List.map_cons, List.map_nil, atI_last]
/-- [.. for ..]: items of which only some is known -/
theorem compGo_all {α β : Type} (enc : α → D) (g : β → D) (P : β → Prop) {G : XG} {U : XT} {T : XE} {γ : List Cell} {K : Cell → Prop} (xs : List α) (h : ∀ x ∈ xs, ∀ (K1 : Cell → Prop) (K0 : Prop), (∀ y, P y → K1 (.im (g y))) → G (enc x) γ fun γ2 => U γ2 fun b => if b = true then T γ2 K1 else K0)
    (hk : ∀ ys : List β, ys.length = xs.length → (∀ y ∈ ys, P y) → K (.ow ((ys.map g).map .im))) : compGo G U T γ K (xs.map enc) [] := by
  have key : ∀ (xs : List α) (acc : List β), (∀ x ∈ xs, ∀ (K1 : Cell → Prop) (K0 : Prop), (∀ y, P y → K1 (.im (g y))) → G (enc x) γ fun γ2 => U γ2 fun b => if b = true then T γ2 K1 else K0) → (∀ ys : List β, ys.length = xs.length → (∀ y ∈ ys, P y) → K (.ow (((acc ++ ys).map g).map .im))) → compGo G U T γ K (xs.map enc) ((acc.map g).map .im) := by
    intro xs
    induction xs with
    | nil => intro acc _ hk; simpa [compGo] using hk [] rfl (fun _ z => nomatch z)
    | cons x xs ih =>
      intro acc h hk
      refine h x List.mem_cons_self _ _ (fun y hy => ?_)
      have := ih (acc ++ [y]) (fun z m => h z (List.mem_cons_of_mem _ m)) fun ys hl hP => by
        have := hk (y :: ys) (by simp [hl]) (fun z m => by rcases List.mem_cons.mp m with rfl | m <;> (first | exact hy | exact hP z m))
        simpa using this
      simpa using this
  exact key xs [] h (by simpa using hk)
/-- .. a part of a list: what must be in, what may be in -/
theorem compGo_sub {α : Type} (enc : α → D) (g : α → D) (p q : α → Prop) {G : XG} {U : XT} {T : XE} {γ : List Cell} {K : Cell → Prop} (xs : List α) (h : ∀ x ∈ xs, ∀ (K1 : Cell → Prop) (K0 : Prop), (p x → K1 (.im (g x))) → (¬ q x → K0) → G (enc x) γ fun γ2 => U γ2 fun b => if b = true then T γ2 K1 else K0)
    (hk : ∀ ys : List α, ys.Sublist xs → (∀ y ∈ ys, p y) → (∀ x ∈ xs, q x → x ∈ ys) → K (.ow ((ys.map g).map .im))) : compGo G U T γ K (xs.map enc) [] := by
  have key : ∀ (xs : List α) (acc : List α), (∀ x ∈ xs, ∀ (K1 : Cell → Prop) (K0 : Prop), (p x → K1 (.im (g x))) → (¬ q x → K0) → G (enc x) γ fun γ2 => U γ2 fun b => if b = true then T γ2 K1 else K0) → (∀ ys : List α, ys.Sublist xs → (∀ y ∈ ys, p y) → (∀ x ∈ xs, q x → x ∈ ys) → K (.ow (((acc ++ ys).map g).map .im))) → compGo G U T γ K (xs.map enc) ((acc.map g).map .im) := by
    intro xs
    induction xs with
    | nil => intro acc _ hk; simpa [compGo] using hk [] (List.Sublist.refl _) (fun _ z => nomatch z) (fun _ z => nomatch z)
    | cons x xs ih =>
      intro acc h hk
      refine h x List.mem_cons_self _ _ (fun hp => ?_) fun hq => ?_
      · have := ih (acc ++ [x]) (fun z m => h z (List.mem_cons_of_mem _ m)) fun ys hs hP hQ => by
          have := hk (x :: ys) (hs.cons_cons x) (fun z m => by rcases List.mem_cons.mp m with rfl | m <;> (first | exact hp | exact hP z m)) (fun z m hz => by rcases List.mem_cons.mp m with rfl | m <;> (first | exact List.mem_cons_self | exact List.mem_cons_of_mem _ (hQ z m hz)))
          simpa using this
        simpa using this
      · exact ih acc (fun z m => h z (List.mem_cons_of_mem _ m)) fun ys hs hP hQ => hk ys (hs.cons x) hP (fun z m hz => by rcases List.mem_cons.mp m with rfl | m <;> (first | exact absurd hz hq | exact hQ z m hz))
  exact key xs [] h (by simpa using hk)
@[simp] theorem frz_ow (ds : List D) : frz (.ow (ds.map .im)) = .im (.list ds) := by
  simp [frz]
/-- an ascending list of numbers is a part of the numbers -/
theorem asc_sub : ∀ (n a : Nat) (l : List Nat), l.Pairwise (· < ·) → (∀ x ∈ l, a ≤ x ∧ x < a + n) → l.Sublist (List.range' a n)
  | 0, a, [], _, _ => List.Sublist.refl _
  | 0, a, x :: l, _, h => by have := h x List.mem_cons_self; omega
  | n + 1, a, [], _, _ => List.nil_sublist _
  | n + 1, a, x :: l, hp, h => by
    obtain ⟨h1, h2⟩ := List.pairwise_cons.mp hp
    rw [List.range'_succ]
    by_cases e : x = a
    · subst e
      refine (asc_sub n (x + 1) l h2 fun y m => ?_).cons_cons x
      have := h y (List.mem_cons_of_mem _ m)
      have := h1 y m
      omega
    · refine (asc_sub n (a + 1) (x :: l) hp fun y m => ?_).cons a
      have := h y m
      have := h x List.mem_cons_self
      rcases List.mem_cons.mp m with rfl | m
      · omega
      · have := h1 y m
        omega
/-- items by ascending places -/
theorem asc_items {α : Type} (xs : List α) (d : α) (l : List Nat) (h : l.Pairwise (· < ·)) (hl : ∀ x ∈ l, x < xs.length) : (l.map fun k => xs.getD k d).Sublist xs := by
  have h1 := asc_sub xs.length 0 l h fun x m => ⟨Nat.zero_le _, by have := hl x m; omega⟩
  have h2 := h1.map fun k => xs.getD k d
  have e : (List.range' 0 xs.length).map (fun k => xs.getD k d) = xs := by
    apply List.ext_getElem
    · simp
    · intro i h1 h2
      simp [List.getD_eq_getElem?_getD, h2]
  rwa [e] at h2
/-- sorted of numbers -/
theorem sortD_nat (l : List Nat) (nd : l.Nodup) : ∃ l' : List Nat, sortD (l.map fun x => .int (x : Nat)) = l'.map (fun x => .int (x : Nat)) ∧ l'.Perm l ∧ l'.Pairwise (· < ·) := by
  obtain ⟨h1, h2⟩ := sortD_asc (ds := l.map fun x => .int (x : Nat)) (by
    intro d m d' m'
    obtain ⟨x, _, rfl⟩ := List.mem_map.mp m
    obtain ⟨y, _, rfl⟩ := List.mem_map.mp m'
    rfl) (List.pairwise_map.mpr (nd.imp fun {a b} h => by simp; omega))
  obtain ⟨l', hl'⟩ : ∃ l' : List Nat, sortD (l.map fun x => .int (x : Nat)) = l'.map (fun x => .int (x : Nat)) := by
    have : ∀ ds : List D, (∀ d ∈ ds, ∃ x : Nat, d = .int (x : Nat)) → ∃ l' : List Nat, ds = l'.map (fun x => .int (x : Nat)) := by
      intro ds
      induction ds with
      | nil => intro _; exact ⟨[], rfl⟩
      | cons d ds ih =>
        intro h
        obtain ⟨x, rfl⟩ := h d List.mem_cons_self
        obtain ⟨l', rfl⟩ := ih fun d m => h d (List.mem_cons_of_mem _ m)
        exact ⟨x :: l', rfl⟩
    refine this _ fun d m => ?_
    obtain ⟨x, _, rfl⟩ := List.mem_map.mp (h1.subset m)
    exact ⟨x, rfl⟩
  refine ⟨l', hl', ?_, ?_⟩
  · rw [hl'] at h1
    have := h1.map fun d : D => match d with | .int i => i.toNat | _ => 0
    simpa [List.map_map, Function.comp_def] using this
  · rw [hl'] at h2
    have := List.pairwise_map.mp h2
    refine this.imp fun {a b} h => ?_
    rw [PySem.W.dataLt_int] at h
    simpa using h
theorem alike_nats (l : List Nat) : PySem.W.AllAlike (l.map fun x => .int (x : Nat)) ∧ PySem.W.Sortable (l.map fun x => .int (x : Nat)) ∧ ∀ d ∈ l.map (fun x => PyData.int (x : Nat)), d.depth ≤ 60 := by
  refine ⟨?_, .inr ?_, ?_⟩
  · intro d m d' m'
    obtain ⟨x, _, rfl⟩ := List.mem_map.mp m
    obtain ⟨y, _, rfl⟩ := List.mem_map.mp m'
    rfl
  · intro d m
    obtain ⟨x, _, rfl⟩ := List.mem_map.mp m
    exact ⟨by simp, by simp⟩
  · intro d m
    obtain ⟨x, _, rfl⟩ := List.mem_map.mp m
    simp
theorem ofString_eq (s : String) : Str.ofString s = Str.ofStringByList s := by rw [Str.ofString_eq_byList]
theorem strOk_of (s : String) : PyData.strOk (Str.ofString s) = true := by
  rw [ofString_eq]
  unfold PyData.strOk Str.ofStringByList
  rw [← Array.all_toList, List.all_eq_true]
  intro n m
  simp only [List.mem_map] at m
  obtain ⟨c, _, rfl⟩ := m
  rw [decide_eq_true_iff]
  have := c.valid
  show c.val.toNat < 0x110000
  rcases this with h | h
  · have : c.val.toNat < 0xd800 := h
    omega
  · exact h.2
/-- [1 for ..] beside [] -/
theorem ones {α : Type} (l : List α) : ∃ d, toD (.ow ((l.map fun _ => PyData.int 1).map .im)) = some d ∧ PyData.canLay0 d = true ∧ PyData.depth d ≤ 64 ∧ PyData.eqv d (PyData.list []) = l.isEmpty := by
  refine ⟨.list (l.map fun _ => .int 1), by rw [toD_ow, toDs_map]; rfl, ?_, ?_, ?_⟩
  · simp only [PyData.canLay0]; exact layAll_map fun _ _ => by simp
  · have h := depAll_map (f := fun _ : α => PyData.int 1) (l := l) (m := 0) fun _ _ => by simp
    simp only [PyData.depth]; omega
  · cases l <;> simp
theorem ones_or {α : Type} (l : List α) {P Q : Prop} (h1 : l = [] → P) (h2 : l ≠ [] → Q) : ∃ d, toD (.ow ((l.map fun _ => PyData.int 1).map .im)) = some d ∧ PyData.canLay0 d = true ∧ PyData.depth d ≤ 64 ∧ (PyData.eqv d (PyData.list []) = true ∧ P ∨ PyData.eqv d (PyData.list []) = false ∧ Q) := by
  obtain ⟨d, a, b, c, e⟩ := ones l
  refine ⟨d, a, b, c, ?_⟩
  rw [e]
  cases l with
  | nil => exact .inl ⟨rfl, h1 rfl⟩
  | cons x l => exact .inr ⟨rfl, h2 (by simp)⟩
end DL
set_option maxHeartbeats 1000000
namespace DL
open PySem PySem.Spec PyProof.Rows L2
def Ev (T : XE) (γ : List Cell) (d : D) : Prop := ∀ K : Cell → Prop, K (.im d) → T γ K
def EvA (U : XA) (γ : List Cell) (ds : List D) : Prop := ∀ K : List Cell → Prop, K (ds.map .im) → U γ K
section
variable {γ : List Cell} {T U V : XE} {A : XA} {d e : D} {ds : List D} {i : Nat}
theorem ev_c : Ev (xC d) γ d := fun K h => h
theorem ev_var (h : γ[i]? = some (.im d)) : Ev (xVar i) γ d := fun K k => ⟨_, h, rfl, k⟩
theorem ev_varR (h : γ[i]? = some (.im d)) : Ev (xVarR i) γ d := fun K k => ⟨_, h, (fun z => by cases z), k⟩
theorem ev_nil : EvA xNil γ [] := fun K h => h
theorem ev_cons (h : Ev T γ d) (k : EvA A γ ds) : EvA (xCons T A) γ (d :: ds) := fun K q => h _ (k _ q)
theorem ev_tup (h : EvA A γ ds) (hl : ds.length ≤ 1000) : Ev (xTup A) γ (.tuple ds) := fun K k => h _ ⟨ds, toDs_im ds, le_size hl, k⟩
theorem ev_lst (h : EvA A γ ds) (hl : ds.length ≤ 1000) {K : Cell → Prop} (k : K (.ow (ds.map .im))) : xLst A γ K := h _ ⟨by rw [List.length_map]; exact le_size hl, k⟩
theorem ev_fz (h : EvA A γ ds) (hl : ds.length ≤ 1000) : Ev (xFzE (xLst A)) γ (.list ds) := fun K k => ev_lst h hl (K := fun c => K (frz c)) (by rw [frz_ow]; exact k)
theorem ev_add {a b : Int} (h : Ev T γ (.int a)) (k : Ev U γ (.int b)) : Ev (x2 cAdd T U) γ (.int (a + b)) := fun K q => h _ (k _ (.inl ⟨a, b, rfl, rfl, q⟩))
theorem ev_i0 {f : Int → Int → Int} {a b : Int} (h : Ev T γ (.int a)) (k : Ev U γ (.int b)) : Ev (x2 (cI0 f) T U) γ (.int (f a b)) := fun K q => h _ (k _ ⟨a, b, rfl, rfl, q⟩)
theorem ev_neg {a : Int} (h : Ev T γ (.int a)) : Ev (x1 cNeg T) γ (.int (-a)) := fun K q => h _ ⟨a, rfl, q⟩
theorem ev_eqI {a b : Int} (h : Ev T γ (.int a)) (k : Ev U γ (.int b)) : Ev (x2 cEq T U) γ (.bool (a == b)) := fun K q => h _ (k _ ⟨.int a, .int b, rfl, rfl, by simp, by simp, by simpa using q⟩)
theorem ev_str {a : Int} (h : Ev T γ (.int a)) (hl : a.natAbs.log2 < 1920) : Ev (xCB cStr (xCons T xNil)) γ (.str (toString a)) := fun K q => h _ ⟨a, rfl, hl, q⟩
theorem ev_flat (h : Ev T γ d) : Ev (xFlat T) γ d := fun K q => h _ ⟨rfl, q⟩
theorem ev_ext {E : XEnds} {es : List D} (h : EvA A γ es) (hc : γ[i]? = some (.ow (ds.map .im))) (h1 : es.length ≤ 1000) (hl : ds.length + es.length ≤ 1000) (nx : E.nx (γ.set i (.ow ((ds ++ es).map .im)))) : sExt i (xLst A) E γ :=
  ⟨_, hc, ev_lst h h1 ⟨_, rfl, by rw [List.length_map, List.length_map]; exact le_size hl, by rw [← List.map_append]; exact nx⟩⟩
end
end DL
set_option maxHeartbeats 1000000
namespace DL
open PySem PySem.Spec PyProof.Rows L2
abbrev Main (T : XS) (N : List Str) (S : FS) : Prop := ∀ cs K', S cs K' → T { nx := fun _ => K' (.im .none), rt := K' } (cs ++ List.replicate (N.length - cs.length) .un)
def encN (x : Nat) : D := .int (x : Nat)
def encL (l : List Nat) : D := .tuple (l.map fun x => .int (x : Nat))
def encP (p : Nat × Nat) : D := .tuple [.int p.1, .int p.2]
abbrev Deed := Bool × Nat
def wd (b : Bool) : Str := if b = true then "pour" else "open"
def encDeed (d : Deed) : D := .tuple [.str (wd d.1), .int d.2]
def encS (s : List Deed) : D := .tuple (s.map encDeed)
@[simp] theorem ok_pour : PyData.strOk (Str.ofString "pour") = true := by decide +kernel
@[simp] theorem ok_open : PyData.strOk (Str.ofString "open") = true := by decide +kernel
@[simp] theorem ne_pour_open : ¬ (Str.ofString "pour" = Str.ofString "open") := by decide +kernel
@[simp] theorem ne_open_pour : ¬ (Str.ofString "open" = Str.ofString "pour") := by decide +kernel
@[simp] theorem ok_wd (b : Bool) : PyData.strOk (wd b) = true := by cases b <;> simp [wd]
def isIntD : D → Bool
  | .int _ => true
  | _ => false
def isBtw (l m : Int) : D → Bool
  | .int i => decide (l ≤ i) && decide (i ≤ m)
  | _ => false
def noDict : D → Bool
  | .dict _ => false
  | _ => true
def lotL (n : Nat) (S : Nat → Bool) : List Nat := (List.range n).filter S
theorem mem_lotL {n : Nat} {S : Nat → Bool} {a : Nat} : a ∈ lotL n S ↔ a < n ∧ S a = true := by simp [lotL]
theorem asc_lotL (n : Nat) (S : Nat → Bool) : (lotL n S).Pairwise (· < ·) := List.Pairwise.filter _ List.pairwise_lt_range
theorem len_lotL (n : Nat) (S : Nat → Bool) : (lotL n S).length ≤ n := by
  have := List.length_filter_le S (List.range n)
  simpa [lotL] using this
theorem lotL_ext {n : Nat} {S T : Nat → Bool} (h : ∀ a, a < n → S a = T a) : lotL n S = lotL n T := List.filter_congr fun a m => h a (by simpa using m)
theorem asc_oneN : ∀ {l m : List Nat}, l.Pairwise (· < ·) → m.Pairwise (· < ·) → (∀ k, k ∈ l ↔ k ∈ m) → l = m := by
  intro l m hl hm h
  have e : l.map (fun x : Nat => (x : Int)) = m.map fun x : Nat => (x : Int) := asc_one (by rw [List.pairwise_map]; exact hl.imp fun h => by omega) (by rw [List.pairwise_map]; exact hm.imp fun h => by omega) fun k => by
    simp only [List.mem_map]
    exact ⟨fun ⟨a, b, c⟩ => ⟨a, (h a).mp b, c⟩, fun ⟨a, b, c⟩ => ⟨a, (h a).mpr b, c⟩⟩
  exact (List.map_inj_right fun a b h => by omega).mp e
theorem lotL_of {n : Nat} {S : Nat → Bool} {l : List Nat} (h : l.Pairwise (· < ·)) (hm : ∀ a, a ∈ l ↔ a < n ∧ S a = true) : l = lotL n S :=
  asc_oneN h (asc_lotL n S) fun k => by rw [hm, mem_lotL]
def maskOf (l : List Nat) : Nat := l.foldl (fun m x => m ||| 2 ^ x) 0
theorem maskOf_bit (l : List Nat) (a : Nat) : (maskOf l).testBit a = true ↔ a ∈ l := by
  have key : ∀ (l : List Nat) (m : Nat), (l.foldl (fun m x => m ||| 2 ^ x) m).testBit a = true ↔ m.testBit a = true ∨ a ∈ l := by
    intro l
    induction l with
    | nil => intro m; simp
    | cons x l ih =>
      intro m
      rw [List.foldl_cons, ih, Nat.testBit_or, Bool.or_eq_true, Nat.testBit_two_pow, decide_eq_true_eq, List.mem_cons]
      constructor
      · rintro ((h | h) | h)
        · exact .inl h
        · exact .inr (.inl h.symm)
        · exact .inr (.inr h)
      · rintro (h | rfl | h)
        · exact .inl (.inl h)
        · exact .inl (.inr rfl)
        · exact .inr h
  simpa [maskOf] using key l 0
def mk (n : Nat) (S : Nat → Bool) : Nat := maskOf (lotL n S)
@[simp] theorem mk_bit (n : Nat) (S : Nat → Bool) (a : Nat) : (mk n S).testBit a = (decide (a < n) && S a) := by
  rw [Bool.eq_iff_iff]
  unfold mk
  rw [maskOf_bit, mem_lotL]
  simp
theorem mk_of {n m : Nat} {S : Nat → Bool} (h : ∀ a, m.testBit a = (decide (a < n) && S a)) : m = mk n S := Nat.eq_of_testBit_eq fun a => by rw [h, mk_bit]
theorem mk_ext {n : Nat} {S T : Nat → Bool} (h : ∀ a, a < n → S a = T a) : mk n S = mk n T := by unfold mk; rw [lotL_ext h]
theorem mk_inj {n : Nat} {S T : Nat → Bool} (h : mk n S = mk n T) : ∀ a, a < n → S a = T a := fun a ha => by
  have e := congrArg (fun m : Nat => m.testBit a) h
  simpa [ha] using e
theorem mk_or (n : Nat) (S T : Nat → Bool) : mk n S ||| mk n T = mk n fun a => S a || T a := mk_of fun a => by
  rw [Nat.testBit_or, mk_bit, mk_bit]
  cases decide (a < n) <;> simp
theorem mk_and (n : Nat) (S T : Nat → Bool) : mk n S &&& mk n T = mk n fun a => S a && T a := mk_of fun a => by
  rw [Nat.testBit_and, mk_bit, mk_bit]
  cases decide (a < n) <;> simp
theorem mk_diff (n : Nat) (S T : Nat → Bool) : Builtin.bitAnd (mk n S : Nat) (Builtin.bitNot (mk n T : Nat)) = (mk n (fun a => S a && !T a) : Nat) := by
  unfold Builtin.bitAnd
  have h1 : decide (0 ≤ ((mk n S : Nat) : Int)) = true := by simp
  have h2 : decide (0 ≤ Builtin.bitNot (mk n T : Nat)) = false := by unfold Builtin.bitNot; simp; omega
  rw [h1, h2]
  simp only [bnot_bnot, Int.toNat_natCast]
  have e := sub_nat (mk n S) (mk n T)
  rw [band_nat] at e
  rw [e]
  congr 1
  refine mk_of fun a => ?_
  rw [Nat.testBit_xor, Nat.testBit_and, mk_bit, mk_bit]
  cases decide (a < n) <;> cases S a <;> cases T a <;> rfl
theorem mk_lt {n : Nat} (S : Nat → Bool) (h : n ≤ 12) : mk n S < 2 ^ 16 := by
  refine Nat.lt_of_lt_of_le (Nat.lt_pow_two_of_testBit (n := 12) _ fun i hi => ?_) (by decide)
  rw [mk_bit]
  have : decide (i < n) = false := by simp; omega
  rw [this]; rfl
theorem bits_lt {m a : Nat} (h : m.testBit a = true) : a < Builtin.Int.intBits (m : Nat) := by
  have h0 : 2 ^ a ≤ m := Nat.ge_two_pow_of_testBit h
  have hp : 0 < 2 ^ a := Nat.two_pow_pos a
  unfold Builtin.Int.intBits
  have e : ((m : Int) == 0) = false := by simp; omega
  rw [e]
  simp
  have := (Nat.le_log2 (by omega : m ≠ 0)).mpr h0
  omega
theorem bits_le {m : Nat} (h : m < 2 ^ 16) : Builtin.Int.intBits (m : Nat) ≤ 17 := by
  unfold Builtin.Int.intBits
  by_cases e : m = 0
  · subst e; simp
  · have e' : ((m : Int) == 0) = false := by simp; omega
    rw [e']
    simp
    have := (Nat.log2_lt (by omega : m ≠ 0)).mpr h
    omega
theorem bits_lot (n : Nat) (S : Nat → Bool) : ((List.range (Builtin.Int.intBits (mk n S : Nat))).filter fun x => (mk n S).testBit x) = lotL n S :=
  lotL_of (List.Pairwise.filter _ List.pairwise_lt_range) fun a => by
    have hb : (mk n S).testBit a = true → a < Builtin.Int.intBits (mk n S : Nat) := bits_lt
    rw [List.mem_filter, List.mem_range]
    constructor
    · rintro ⟨_, h⟩; simpa using h
    · intro h
      have e : (mk n S).testBit a = true := by simpa using h
      exact ⟨hb e, e⟩
theorem mk_zero (n : Nat) : mk n (fun _ => false) = 0 := by
  refine (mk_of fun a => ?_).symm
  simp
/-- rows of masks -/
def rowsM (n : Nat) (R : Nat → Nat → Bool) : List Nat := (List.range n).map fun x => mk n fun a => R x a
@[simp] theorem rowsM_len (n : Nat) (R : Nat → Nat → Bool) : (rowsM n R).length = n := by simp [rowsM]
theorem rowsM_at {n x : Nat} (R : Nat → Nat → Bool) (h : x < n) : (rowsM n R).getD x 0 = mk n fun a => R x a := by
  rw [List.getD_eq_getElem?_getD]
  simp [rowsM, h]
theorem rowsM_ext {n : Nat} {R R' : Nat → Nat → Bool} (h : ∀ x a, x < n → a < n → R x a = R' x a) : rowsM n R = rowsM n R' :=
  List.map_congr_left fun x m => mk_ext fun a ha => h x a (by simpa using m) ha
theorem rowsM_of {n : Nat} {R : Nat → Nat → Bool} {f : List Nat} (hl : f.length = n) (h : ∀ x, x < n → ∀ a, (f.getD x 0).testBit a = (decide (a < n) && R x a)) : f = rowsM n R := by
  apply List.ext_getElem
  · simp [hl]
  · intro i h1 h2
    have hi : i < n := by omega
    have := mk_of (h i hi)
    rw [List.getD_eq_getElem?_getD, List.getElem?_eq_getElem h1] at this
    simp only [Option.getD_some] at this
    rw [this]
    simp [rowsM]
structure Hl where
  n : Nat
  le : Nat → Nat → Bool
def prs (h : Hl) : List (Nat × Nat) := (List.range h.n).flatMap fun a => ((List.range h.n).filter fun b => decide (a ≠ b) && h.le a b).map fun b => (a, b)
def encH (h : Hl) : D := .tuple [.int h.n, .tuple ((prs h).map encP)]
structure Hl.ok (h : Hl) : Prop where
  pos : 1 ≤ h.n
  top : h.n ≤ 10
  refl : ∀ a, a < h.n → h.le a a = true
  trans : ∀ a b c, a < h.n → b < h.n → c < h.n → h.le a b = true → h.le b c = true → h.le a c = true
theorem mem_prs {h : Hl} {p : Nat × Nat} : p ∈ prs h ↔ p.1 < h.n ∧ p.2 < h.n ∧ p.1 ≠ p.2 ∧ h.le p.1 p.2 = true := by
  unfold prs
  simp only [List.mem_flatMap, List.mem_map, List.mem_filter, List.mem_range, Bool.and_eq_true, decide_eq_true_eq]
  constructor
  · rintro ⟨a, ha, b, ⟨hb, h1, h2⟩, rfl⟩
    exact ⟨ha, hb, h1, h2⟩
  · rintro ⟨h1, h2, h3, h4⟩
    exact ⟨p.1, h1, p.2, ⟨h2, h3, h4⟩, rfl⟩
theorem prs_ext {h g : Hl} (e : h.n = g.n) (hl : ∀ a b, a < h.n → b < h.n → h.le a b = g.le a b) : prs h = prs g := by
  unfold prs
  rw [← e, List.flatMap_def, List.flatMap_def]
  congr 1
  refine List.map_congr_left fun a ha => ?_
  rw [List.filter_congr fun b hb => ?_]
  rw [hl a b (by simpa using ha) (by simpa using hb)]
def lexP (p q : Nat × Nat) : Bool := if p.1 = q.1 then decide (p.2 < q.2) else decide (p.1 < q.1)
theorem prs_asc (h : Hl) : (prs h).Pairwise fun p q => lexP p q = true := by
  unfold prs
  refine List.pairwise_flatMap.mpr ⟨fun a _ => ?_, ?_⟩
  · rw [List.pairwise_map]
    refine (List.Pairwise.filter _ List.pairwise_lt_range).imp fun h => ?_
    simp [lexP, h]
  · refine (List.pairwise_lt_range (n := h.n)).imp fun {a b} hab x hx y hy => ?_
    obtain ⟨_, _, rfl⟩ := List.mem_map.mp hx
    obtain ⟨_, _, rfl⟩ := List.mem_map.mp hy
    have : ¬ a = b := by omega
    simp [lexP, this, hab]
theorem prs_len (h : Hl) : (prs h).length ≤ h.n * h.n := by
  unfold prs
  rw [List.length_flatMap]
  have : ∀ l : List Nat, (l.map fun a => (((List.range h.n).filter fun b => decide (a ≠ b) && h.le a b).map fun b => (a, b)).length).sum ≤ l.length * h.n := by
    intro l
    induction l with
    | nil => simp
    | cons a l ih =>
      rw [List.map_cons, List.sum_cons, List.length_cons, Nat.succ_mul]
      have := List.length_filter_le (fun b => decide (a ≠ b) && h.le a b) (List.range h.n)
      rw [List.length_map]
      rw [List.length_range] at this
      omega
  simpa using this (List.range h.n)
/-- upside down -/
def Hl.op (h : Hl) : Hl := ⟨h.n, fun a b => h.le b a⟩
theorem Hl.ok.op {h : Hl} (k : h.ok) : h.op.ok := ⟨k.pos, k.top, k.refl, fun a b c ha hb hc h1 h2 => k.trans c b a hc hb ha h2 h1⟩
def endB (n : Nat) (R R' : Nat → Nat → Bool) (S : Nat → Bool) (x : Nat) : Bool :=
  S x && (List.range n).all (fun y => !(S y && R x y) || R' x y) && (List.range n).all fun y => !(decide (y < x) && S y && R x y && R' x y)
theorem endB_iff {n : Nat} {R R' : Nat → Nat → Bool} {S : Nat → Bool} {x : Nat} : endB n R R' S x = true ↔ S x = true ∧ (∀ y, y < n → S y = true → R x y = true → R' x y = true) ∧ ∀ y, y < n → y < x → S y = true → R x y = true → R' x y = true → False := by
  unfold endB
  simp only [Bool.and_eq_true, List.all_eq_true, List.mem_range, Bool.or_eq_true, Bool.not_eq_true', Bool.and_eq_false_iff, decide_eq_false_iff_not]
  constructor
  · rintro ⟨⟨h1, h2⟩, h3⟩
    refine ⟨h1, fun y hy s r => ?_, fun y hy hl s r r' => ?_⟩
    · rcases h2 y hy with z | z
      · simp [s, r] at z
      · exact z
    · have := h3 y hy
      simp [s, r, r', hl] at this
  · rintro ⟨h1, h2, h3⟩
    refine ⟨⟨h1, fun y hy => ?_⟩, fun y hy => ?_⟩
    · cases s : S y <;> cases r : R x y <;> simp
      exact h2 y hy s r
    · by_cases hl : y < x
      · cases s : S y <;> cases r : R x y <;> cases r' : R' x y <;> simp
        exact absurd (h3 y hy hl s r r') id
      · exact .inl (.inl (.inl hl))
/-- each member lies under an end -/
theorem end_over {h : Hl} (k : h.ok) (S : Nat → Bool) : ∀ (m x : Nat), x < h.n → S x = true → ((List.range h.n).filter fun z => S z && h.le x z && !h.le z x).length ≤ m →
    ∃ e, e < h.n ∧ endB h.n (fun x y => h.le x y) (fun x y => h.le y x) S e = true ∧ h.le x e = true := by
  -- the least of a class that nothing lies strictly over
  have base : ∀ x, x < h.n → S x = true → (∀ z, z < h.n → S z = true → h.le x z = true → h.le z x = true) → ∃ e, e < h.n ∧ endB h.n (fun x y => h.le x y) (fun x y => h.le y x) S e = true ∧ h.le x e = true := by
    intro x hx sx hmax
    obtain ⟨e, _, ⟨he, se, l1, l2⟩, hlow⟩ := L2.st_least (p := fun y => y < h.n ∧ S y = true ∧ h.le x y = true ∧ h.le y x = true) x ⟨hx, sx, k.refl x hx, k.refl x hx⟩
    refine ⟨e, he, endB_iff.mpr ⟨se, fun y hy sy r => ?_, fun y hy hl sy r r' => hlow y hl ⟨hy, sy, k.trans x e y hx he hy l1 r, k.trans y e x hy he hx r' l2⟩⟩, l1⟩
    exact k.trans y x e hy hx he (hmax y hy sy (k.trans x e y hx he hy l1 r)) l1
  intro m
  induction m with
  | zero =>
    intro x hx sx hm
    refine base x hx sx fun z hz sz l => ?_
    have e := List.eq_nil_of_length_eq_zero (Nat.le_zero.mp hm)
    cases q : h.le z x with
    | true => rfl
    | false =>
      have : z ∈ (List.range h.n).filter fun z => S z && h.le x z && !h.le z x := by simp [hz, sz, l, q]
      rw [e] at this; cases this
  | succ m ih =>
    intro x hx sx hm
    by_cases c : ∃ z, z < h.n ∧ S z = true ∧ h.le x z = true ∧ h.le z x = false
    · obtain ⟨z, hz, sz, l, q⟩ := c
      have lt : ((List.range h.n).filter fun y => S y && h.le z y && !h.le y z).length < ((List.range h.n).filter fun y => S y && h.le x y && !h.le y x).length := by
        have sub : ∀ y ∈ (List.range h.n).filter (fun y => S y && h.le z y && !h.le y z), y ∈ ((List.range h.n).filter fun y => S y && h.le x y && !h.le y x).erase z := by
          intro y my
          simp only [List.mem_filter, List.mem_range, Bool.and_eq_true, Bool.not_eq_true'] at my
          obtain ⟨hy, ⟨sy, l1⟩, l2⟩ := my
          have ne : y ≠ z := by rintro rfl; rw [k.refl y hy] at l2; cases l2
          refine (List.mem_erase_of_ne ne).mpr ?_
          simp only [List.mem_filter, List.mem_range, Bool.and_eq_true, Bool.not_eq_true']
          refine ⟨hy, ⟨sy, k.trans x z y hx hz hy l l1⟩, ?_⟩
          cases w : h.le y x with
          | false => rfl
          | true => rw [k.trans y x z hy hx hz w l] at l2; cases l2
        have mz : z ∈ (List.range h.n).filter fun y => S y && h.le x y && !h.le y x := by simp [hz, sz, l, q]
        have nd : ((List.range h.n).filter fun y => S y && h.le z y && !h.le y z).Nodup := List.Pairwise.filter _ List.nodup_range
        have le := L2.nat_nodup_len _ _ nd sub
        rw [List.length_erase_of_mem mz] at le
        have := List.length_pos_of_mem mz
        omega
      obtain ⟨e, he, h1, h2⟩ := ih z hz sz (by omega)
      exact ⟨e, he, h1, k.trans x z e hx hz he l h2⟩
    · refine base x hx sx fun z hz sz l => ?_
      cases q : h.le z x with
      | true => rfl
      | false => exact absurd ⟨z, hz, sz, l, q⟩ c
def rch (h : Hl) (d : Deed) (x : Nat) : Bool := if d.1 = true then h.le x d.2 else h.le d.2 x
/-- the word of the last deed that reaches x; o if none does -/
def sem (h : Hl) (s : List Deed) (x : Nat) (o : Option Bool) : Option Bool := s.foldl (fun o d => if rch h d x = true then some d.1 else o) o
theorem sem_app (h : Hl) (s t : List Deed) (x : Nat) (o : Option Bool) : sem h (s ++ t) x o = sem h t x (sem h s x o) := List.foldl_append
@[simp] theorem sem_nil (h : Hl) (x : Nat) (o : Option Bool) : sem h [] x o = o := rfl
@[simp] theorem sem_cons (h : Hl) (d : Deed) (s : List Deed) (x : Nat) (o : Option Bool) : sem h (d :: s) x o = sem h s x (if rch h d x = true then some d.1 else o) := rfl
theorem sem_or (h : Hl) (x : Nat) : ∀ (s : List Deed) (o : Option Bool), sem h s x o = (sem h s x none).or o
  | [], o => by simp
  | d :: s, o => by
    rw [sem_cons, sem_cons, sem_or h x s (if rch h d x = true then some d.1 else o), sem_or h x s (if rch h d x = true then some d.1 else none)]
    by_cases c : rch h d x = true
    · simp [c]
    · simp [c]
/-- water behind a script -/
def behind (h : Hl) (S : Nat → Bool) (s : List Deed) (x : Nat) : Bool := (sem h s x none).getD (S x)
theorem sem_word (h : Hl) (x : Nat) (b : Bool) : ∀ (s : List Deed) (o : Option Bool), (∀ d ∈ s, d.1 = b) → sem h s x o = if s.any (fun d => rch h d x) = true then some b else o
  | [], o, _ => by simp
  | d :: s, o, hb => by
    rw [sem_cons, sem_word h x b s _ fun e m => hb e (List.mem_cons_of_mem _ m), hb d List.mem_cons_self, List.any_cons]
    cases rch h d x <;> cases s.any (fun d => rch h d x) <;> simp
structure MapOk (h g : Hl) (f : Nat → Nat) : Prop where
  lt : ∀ a, a < h.n → f a < g.n
  mono : ∀ a b, a < h.n → b < h.n → h.le a b = true → g.le (f a) (f b) = true
/-- a deed carried back -/
def due (h g : Hl) (f : Nat → Nat) (d : Deed) : List Deed :=
  (lotL h.n (endB h.n (if d.1 = true then (fun x y => h.le x y) else fun x y => h.le y x) (if d.1 = true then (fun x y => h.le y x) else fun x y => h.le x y) fun a => rch g d (f a))).map fun x => (d.1, x)
theorem due_reach {h g : Hl} {f : Nat → Nat} (k : h.ok) (kg : g.ok) (m : MapOk h g f) {d : Deed} (hd : d.2 < g.n) {x : Nat} (hx : x < h.n) : ((due h g f d).any fun e => rch h e x) = rch g d (f x) := by
  rw [Bool.eq_iff_iff, List.any_eq_true]
  obtain ⟨w, p⟩ := d
  cases w with
  | true =>
    simp only [due, List.mem_map, mem_lotL, rch, if_true]
    constructor
    · rintro ⟨_, ⟨e, ⟨he, hb⟩, rfl⟩, hr⟩
      have h1 := (endB_iff.mp hb).1
      exact kg.trans _ _ _ (m.lt x hx) (m.lt e he) hd (m.mono x e hx he hr) h1
    · intro hr
      obtain ⟨e, he, h1, h2⟩ := end_over k (fun a => g.le (f a) p) _ x hx hr (Nat.le_refl _)
      exact ⟨_, ⟨e, ⟨he, h1⟩, rfl⟩, h2⟩
  | false =>
    simp only [due, List.mem_map, mem_lotL, rch, Bool.false_eq_true, if_false]
    constructor
    · rintro ⟨_, ⟨e, ⟨he, hb⟩, rfl⟩, hr⟩
      have h1 := (endB_iff.mp hb).1
      exact kg.trans _ _ _ hd (m.lt e he) (m.lt x hx) h1 (m.mono e x he hx hr)
    · intro hr
      obtain ⟨e, he, h1, h2⟩ := end_over k.op (fun a => g.le p (f a)) _ x hx hr (Nat.le_refl _)
      exact ⟨_, ⟨e, ⟨he, h1⟩, rfl⟩, h2⟩
def dues (h g : Hl) (f : Nat → Nat) (s : List Deed) : List Deed := s.flatMap (due h g f)
theorem sem_dues {h g : Hl} {f : Nat → Nat} (k : h.ok) (kg : g.ok) (m : MapOk h g f) {x : Nat} (hx : x < h.n) : ∀ (s : List Deed) (o : Option Bool), (∀ d ∈ s, d.2 < g.n) → sem h (dues h g f s) x o = sem g s (f x) o
  | [], o, _ => rfl
  | d :: s, o, hs => by
    have e : dues h g f (d :: s) = due h g f d ++ dues h g f s := List.flatMap_cons
    rw [e, sem_app, sem_dues k kg m hx s _ fun d q => hs d (List.mem_cons_of_mem _ q), sem_cons]
    congr 1
    rw [sem_word h x d.1 _ _ fun e q => by obtain ⟨_, _, rfl⟩ := List.mem_map.mp q; rfl, due_reach k kg m (hs d List.mem_cons_self) hx]
theorem due_lt {h g : Hl} {f : Nat → Nat} {d e : Deed} (q : e ∈ due h g f d) : e.2 < h.n := by
  obtain ⟨x, hx, rfl⟩ := List.mem_map.mp q
  exact (mem_lotL.mp hx).1
theorem due_len (h g : Hl) (f : Nat → Nat) (d : Deed) : (due h g f d).length ≤ h.n := by unfold due; rw [List.length_map]; exact len_lotL _ _
theorem dues_len (h g : Hl) (f : Nat → Nat) : ∀ s : List Deed, (dues h g f s).length ≤ s.length * h.n
  | [] => Nat.zero_le _
  | d :: s => by
    have e : dues h g f (d :: s) = due h g f d ++ dues h g f s := List.flatMap_cons
    rw [e, List.length_append, List.length_cons, Nat.succ_mul]
    have := due_len h g f d
    have := dues_len h g f s
    omega
end DL
set_option maxHeartbeats 1000000
namespace DL
open PySem PySem.Spec PyProof.Rows L2
structure Sh (k L : Nat) (d : D) : Prop where
  sh : d.showable = true
  nd : d.hasDict = false
  dp : d.depth ≤ k
  ln : d.shown.length ≤ L
theorem Sh.ok {k L : Nat} {d : D} (h : Sh k L d) (hk : k ≤ 60) (hL : L ≤ 16777216) : ShowOk d := ⟨h.sh, h.nd, Nat.le_trans h.dp hk, Nat.le_trans h.ln (by rw [sizeLine_eq]; omega)⟩
theorem Sh.mono {k L k' L' : Nat} {d : D} (h : Sh k L d) (hk : k ≤ k') (hL : L ≤ L') : Sh k' L' d := ⟨h.sh, h.nd, Nat.le_trans h.dp hk, Nat.le_trans h.ln hL⟩
theorem shA {k L : Nat} : ∀ {ds : List D}, (∀ d ∈ ds, Sh k L d) → PyData.showableAll ds = true ∧ PyData.hasDictAll ds = false ∧ PyData.depthAll ds ≤ k ∧ piled (PyData.shownAll ds) ≤ ds.length * (L + 2) ∧ (PyData.shownAll ds).length = ds.length
  | [], _ => by simp [PyData.showableAll, PyData.hasDictAll, PyData.depthAll, PyData.shownAll, piled]
  | d :: ds, h => by
    obtain ⟨h1, h2, h3, h4, h5⟩ := shA fun e m => h e (List.mem_cons_of_mem _ m)
    have hd := h d List.mem_cons_self
    have e1 := hd.ln
    have e2 := hd.dp
    refine ⟨by simp [PyData.showableAll, hd.sh, h1], by simp [PyData.hasDictAll, hd.nd, h2], by simp only [PyData.depthAll]; omega, ?_, by simp [PyData.shownAll, h5]⟩
    simp only [PyData.shownAll, piled_cons, List.length_cons, Nat.succ_mul]
    omega
theorem tupleText_le (ts : List Str) : (tupleText ts).length ≤ piled ts + 3 := by
  have e1 : ((",)" : String) : Str).length = 2 := rfl
  have e2 : ((")" : String) : Str).length = 1 := rfl
  have e3 : (("(" : String) : Str).length = 1 := rfl
  have hj : (Str.join ", " ts).length ≤ piled ts := by
    by_cases h : ts = []
    · subst h; exact Nat.zero_le _
    · have := join_length_add ts h; omega
  unfold tupleText
  rw [strLen_append, strLen_append]
  split
  · rw [e1, e3]; omega
  · rw [e2, e3]; omega
theorem listText_le (ts : List Str) : (listText ts).length ≤ piled ts + 3 := by
  have e2 : (("]" : String) : Str).length = 1 := rfl
  have e3 : (("[" : String) : Str).length = 1 := rfl
  have e4 : (("" : String) : Str).length = 0 := rfl
  cases ts with
  | nil => exact (by decide : (2 : Nat) ≤ 3)
  | cons t r =>
    have e : textFrom 0 "[" (t :: r) = textFrom 1 ("[" ++ ("" : String) ++ t) r := rfl
    show (textFrom 0 "[" (t :: r) ++ "]").length ≤ _
    rw [strLen_append, e, textFrom_length_pos _ _ _ (by decide), strLen_append, strLen_append, piled_cons, e2, e3, e4]
    omega
theorem Sh.tup {k L : Nat} {ds : List D} (h : ∀ d ∈ ds, Sh k L d) : Sh (k + 1) (ds.length * (L + 2) + 3) (.tuple ds) := by
  obtain ⟨h1, h2, h3, h4, h5⟩ := shA h
  refine ⟨by simpa [PyData.showable] using h1, by simpa [PyData.hasDict] using h2, by simp only [PyData.depth]; omega, ?_⟩
  have := tupleText_le (PyData.shownAll ds)
  simp only [PyData.shown]
  omega
theorem Sh.lst {k L : Nat} {ds : List D} (h : ∀ d ∈ ds, Sh k L d) : Sh (k + 1) (ds.length * (L + 2) + 3) (.list ds) := by
  obtain ⟨h1, h2, h3, h4, h5⟩ := shA h
  refine ⟨by simpa [PyData.showable] using h1, by simpa [PyData.hasDict] using h2, by simp only [PyData.depth]; omega, ?_⟩
  have := listText_le (PyData.shownAll ds)
  simp only [PyData.shown]
  omega
theorem Sh.nat {x : Nat} (h : x < 10 ^ 9) : Sh 0 10 (.int (x : Nat)) := by
  refine ⟨?_, by simp [PyData.hasDict], by simp [PyData.depth], ?_⟩
  · simp only [PyData.showable, decide_eq_true_eq, Int.natAbs_natCast]
    by_cases e : x = 0
    · subst e; decide
    · exact Nat.lt_of_lt_of_le ((Nat.log2_lt e).mpr (Nat.lt_of_lt_of_le h (by decide : 10 ^ 9 ≤ 2 ^ 30))) (by decide)
  · simp only [PyData.shown]
    have e := int_text_length_le10 (a := ((x : Nat) : Int)) (k := 9) (by decide) (by rw [Int.natAbs_natCast]; exact h)
    rw [PySem.ofString_length]
    omega
theorem sh_wd (b : Bool) : Sh 0 10 (.str (wd b)) := by
  refine ⟨rfl, rfl, by simp [PyData.depth], ?_⟩
  simp only [PyData.shown]
  cases b
  · exact (by decide +kernel : (reprText (Str.ofString "open")).length ≤ 10)
  · exact (by decide +kernel : (reprText (Str.ofString "pour")).length ≤ 10)
theorem Sh.num {x : Int} {k : Nat} (hk : 0 < k) (hk2 : k ≤ 400) (h : x.natAbs < 10 ^ k) : Sh 0 (k + 1) (.int x) := by
  refine ⟨?_, by simp [PyData.hasDict], by simp [PyData.depth], ?_⟩
  · simp only [PyData.showable, decide_eq_true_eq]
    by_cases e : x.natAbs = 0
    · rw [e]; decide
    · have h2 : x.natAbs < 2 ^ (4 * k) := Nat.lt_of_lt_of_le h (by rw [Nat.pow_mul]; exact Nat.pow_le_pow_left (by decide) k)
      exact Nat.lt_of_lt_of_le ((Nat.log2_lt e).mpr h2) (by omega)
  · simp only [PyData.shown]
    have e := int_text_length_le10 hk h
    rw [PySem.ofString_length]
    exact e
theorem sh_encL {l : List Nat} (h : ∀ x ∈ l, x < 10 ^ 9) : Sh 1 (l.length * 12 + 3) (encL l) := by
  have := Sh.tup (ds := l.map fun x => .int (x : Nat)) (k := 0) (L := 10) fun d m => by
    obtain ⟨x, hx, rfl⟩ := List.mem_map.mp m
    exact Sh.nat (h x hx)
  simpa [encL] using this
theorem sh_encDeed {d : Deed} (h : d.2 < 10 ^ 9) : Sh 1 30 (encDeed d) := by
  have := Sh.tup (ds := [.str (wd d.1), .int (d.2 : Nat)]) (k := 0) (L := 10) fun e m => by
    simp at m
    rcases m with rfl | rfl
    · exact sh_wd _
    · exact Sh.nat h
  exact this.mono (by omega) (by simp)
theorem sh_encS {s : List Deed} (h : ∀ d ∈ s, d.2 < 10 ^ 9) : Sh 2 (s.length * 32 + 3) (encS s) := by
  have := Sh.tup (ds := s.map encDeed) (k := 1) (L := 30) fun d m => by
    obtain ⟨x, hx, rfl⟩ := List.mem_map.mp m
    exact sh_encDeed (h x hx)
  simpa [encS] using this
end DL
set_option maxHeartbeats 1000000
namespace L87
open PySem PySem.Spec PyProof.Rows L2 DL
def S_is_integer : FS := fun cs K' => match cs with
  | [.im d] => noDict d = true ∧ K' (.im (.bool (isIntD d)))
  | _ => False
theorem m_is_integer : Main T_is_integer N_is_integer S_is_integer := by
  intro cs K' h
  unfold S_is_integer at h
  split at h
  · rename_i d
    cases d <;> simp_all [T_is_integer, isIntD, noDict]
  · exact h.elim
def S_is_between : FS := fun cs K' => match cs with
  | [.im d, .im (.int l), .im (.int m)] => noDict d = true ∧ K' (.im (.bool (isBtw l m d)))
  | _ => False
theorem m_is_between : Main (T_is_between S_is_integer) N_is_between S_is_between := by
  intro cs K' h
  unfold S_is_between at h
  split at h
  · rename_i d l m
    cases d <;> simp_all [T_is_between, S_is_integer, isIntD, isBtw, noDict]
    rename_i i
    by_cases h1 : l ≤ i <;> simp_all <;> omega
  · exact h.elim
def S_is_pair_of : FS := fun cs K' => ∃ (n : Nat) (p : Nat × Nat), cs = [.im (.int n), .im (encP p)] ∧ (p.1 < n ∧ p.2 < n ∧ p.1 ≠ p.2) ∧ K' (.im (.bool true))
theorem m_is_pair_of : Main (T_is_pair_of S_is_between) N_is_pair_of S_is_pair_of := by
  rintro cs K' ⟨n, ⟨a, b⟩, rfl, ⟨h1, h2, h3⟩, h⟩
  have e1 : isBtw 0 ((n : Int) - 1) (.int a) = true := by simp [isBtw]; omega
  have e2 : isBtw 0 ((n : Int) - 1) (.int b) = true := by simp [isBtw]; omega
  have e3 : ((a : Int) == b) = false := by simp; omega
  simp [T_is_pair_of, S_is_between, encP, noDict, e1, e2, e3, h]
def S_is_book_value : FS := fun cs K' => ∃ b : Hl, cs = [.im (encH b)] ∧ b.ok ∧ K' (.im (.bool true))
theorem m_is_book_value : Main (T_is_book_value S_is_between S_is_pair_of) N_is_book_value S_is_book_value := by
  rintro cs K' ⟨b, rfl, ok, h⟩
  have h1 := ok.pos; have h2 := ok.top
  have e1 : isBtw 1 10 (.int b.n) = true := by simp [isBtw]; omega
  simp [T_is_book_value, encH, S_is_between, noDict, e1]
  refine comp_trues encP (prs b) (fun p hp K1 K0 h => ?_) ⟨_, lstF_trues (prs b), ?_⟩
  · have := mem_prs.mp hp
    simp [S_is_pair_of]
    exact ⟨b.n, rfl, p.1, p.2, rfl, this.1, this.2.1, this.2.2.1, h⟩
  rw [if_neg (no_false (prs b)), zip_next_map]
  refine comp_trues _ _ (fun p hp K1 K0 h => ?_) ⟨_, lstF_trues _, by simpa using h⟩
  have := pair_next (prs_asc b) p hp
  simp [encP, ordB, ordBs, ltB, ltBs]
  refine bool_to ?_ h
  unfold lexP at this
  by_cases e : p.1.1 = p.2.1
  · simp_all; omega
  · have e' : ¬ (p.1.1 : Int) = p.2.1 := by omega
    simp_all
theorem rows_fold (n : Nat) (t sb : Nat × Nat → Nat) : ∀ (ps : List (Nat × Nat)) (f : List Nat), f.length = n → (∀ p ∈ ps, t p < n) →
    (ps.foldl (fun f p => f.set (t p) (f.getD (t p) 0 ||| 2 ^ sb p)) f).length = n ∧ ∀ x a, ((ps.foldl (fun f p => f.set (t p) (f.getD (t p) 0 ||| 2 ^ sb p)) f).getD x 0).testBit a = true ↔ (f.getD x 0).testBit a = true ∨ ∃ p ∈ ps, t p = x ∧ sb p = a
  | [], f, hl, _ => ⟨hl, fun x a => by simp⟩
  | p :: ps, f, hl, hp => by
    have h0 : t p < f.length := by rw [hl]; exact hp p List.mem_cons_self
    obtain ⟨h1, h2⟩ := rows_fold n t sb ps (f.set (t p) (f.getD (t p) 0 ||| 2 ^ sb p)) (by simpa using hl) fun q m => hp q (List.mem_cons_of_mem _ m)
    refine ⟨h1, fun x a => ?_⟩
    rw [List.foldl_cons, h2 x a, getD_set _ _ _ _ h0]
    by_cases e : x = t p
    · subst e
      simp only [if_true, Nat.testBit_or, Bool.or_eq_true, Nat.testBit_two_pow, decide_eq_true_eq, List.mem_cons]
      constructor
      · rintro ((h | h) | ⟨q, m, h⟩)
        · exact .inl h
        · exact .inr ⟨p, .inl rfl, rfl, h⟩
        · exact .inr ⟨q, .inr m, h⟩
      · rintro (h | ⟨q, rfl | m, h⟩)
        · exact .inl (.inl h)
        · exact .inl (.inr h.2)
        · exact .inr ⟨q, m, h⟩
    · simp only [e, if_false, List.mem_cons]
      constructor
      · rintro (h | ⟨q, m, h⟩)
        · exact .inl h
        · exact .inr ⟨q, .inr m, h⟩
      · rintro (h | ⟨q, rfl | m, h⟩)
        · exact .inl h
        · exact absurd h.1.symm e
        · exact .inr ⟨q, m, h⟩
theorem pow_rows (n x a : Nat) (h : x < n) : (((List.range n).map fun i => 2 ^ i).getD x 0).testBit a = true ↔ a = x := by
  rw [List.getD_eq_getElem?_getD]
  simp [h, Nat.testBit_two_pow, eq_comm]
/-- what lies at or below x -/
abbrev dnR (h : Hl) : Nat → Nat → Bool := fun x a => h.le a x
abbrev upR (h : Hl) : Nat → Nat → Bool := fun x a => h.le x a
def S_lows : FS := fun cs K' => ∃ b : Hl, cs = [.im (encH b)] ∧ b.ok ∧ K' (.ow ((nats (rowsM b.n (dnR b))).map .im))
theorem m_lows : Main T_lows N_lows S_lows := by
  rintro cs K' ⟨b, rfl, ok, h⟩
  have h1 := ok.top
  simp [T_lows, encH]
  refine ⟨by omega, compGo_map (fun i => .int (i : Nat)) (fun i => .int ((2 ^ i : Nat) : Nat)) (List.range b.n) (fun i hi K1 K0 hk => ?_) ?_⟩
  · have hi' : i < b.n := by simpa using hi
    simp [cpow_one i (by omega)]
    simpa using hk
  · obtain ⟨g1, g2⟩ := rows_fold b.n (·.2) (·.1) (prs b) ((List.range b.n).map fun i => 2 ^ i) (by simp) fun p m => (mem_prs.mp m).2.1
    refine forGo_fold encP (fun f p => f.set p.2 (f.getD p.2 0 ||| 2 ^ p.1)) (fun f γ => f.length = b.n ∧ ∃ ca cb, γ = [Cell.im (.tuple [.int b.n, .tuple ((prs b).map encP)]), .ow ((nats f).map .im), ca, cb, .un]) ((List.range b.n).map fun i => 2 ^ i) (prs b) _ ⟨by simp, .un, .un, ?_⟩ (fun p hp f γ ⟨hl, ca, cb, e⟩ nx hn => ?_) fun γ ⟨hl, ca, cb, e⟩ => ?_
    · simp [nats]
    · subst e
      have hm := mem_prs.mp hp
      have hb : p.2 < f.length := by rw [hl]; exact hm.2.1
      simp [encP, natsC_at hb, cpow_one p.1 (by omega), ixN_nat hb]
      refine hn _ ⟨by simpa using hl, .im (.int p.1), .im (.int p.2), ?_⟩
      rw [show ((2 : Int) ^ p.1) = ((2 ^ p.1 : Nat) : Int) by simp, bor_nat, natsC_set, List.getD_eq_getElem?_getD]
    · subst e
      simp [-List.getD_eq_getElem?_getD]
      rw [← rowsM_of (R := dnR b) hl fun x hx a => ?_] at h
      · exact h
      rw [Bool.eq_iff_iff, g2 x a, pow_rows b.n x a hx, Bool.and_eq_true, decide_eq_true_eq]
      constructor
      · rintro (z | ⟨p, m, rfl, rfl⟩)
        · subst z; exact ⟨hx, ok.refl _ hx⟩
        · exact ⟨(mem_prs.mp m).1, (mem_prs.mp m).2.2.2⟩
      · rintro ⟨ha, z⟩
        by_cases e : a = x
        · exact .inl e
        · exact .inr ⟨(a, x), mem_prs.mpr ⟨ha, hx, e, z⟩, rfl, rfl⟩
def S_highs : FS := fun cs K' => ∃ b : Hl, cs = [.im (encH b)] ∧ b.ok ∧ K' (.ow ((nats (rowsM b.n (upR b))).map .im))
theorem m_highs : Main T_highs N_highs S_highs := by
  rintro cs K' ⟨b, rfl, ok, h⟩
  have h1 := ok.top
  simp [T_highs, encH]
  refine ⟨by omega, compGo_map (fun i => .int (i : Nat)) (fun i => .int ((2 ^ i : Nat) : Nat)) (List.range b.n) (fun i hi K1 K0 hk => ?_) ?_⟩
  · have hi' : i < b.n := by simpa using hi
    simp [cpow_one i (by omega)]
    simpa using hk
  · obtain ⟨g1, g2⟩ := rows_fold b.n (·.1) (·.2) (prs b) ((List.range b.n).map fun i => 2 ^ i) (by simp) fun p m => (mem_prs.mp m).1
    refine forGo_fold encP (fun f p => f.set p.1 (f.getD p.1 0 ||| 2 ^ p.2)) (fun f γ => f.length = b.n ∧ ∃ ca cb, γ = [Cell.im (.tuple [.int b.n, .tuple ((prs b).map encP)]), .ow ((nats f).map .im), ca, cb, .un]) ((List.range b.n).map fun i => 2 ^ i) (prs b) _ ⟨by simp, .un, .un, ?_⟩ (fun p hp f γ ⟨hl, ca, cb, e⟩ nx hn => ?_) fun γ ⟨hl, ca, cb, e⟩ => ?_
    · simp [nats]
    · subst e
      have hm := mem_prs.mp hp
      have hb : p.1 < f.length := by rw [hl]; exact hm.1
      simp [encP, natsC_at hb, cpow_one p.2 (by omega), ixN_nat hb]
      refine hn _ ⟨by simpa using hl, .im (.int p.1), .im (.int p.2), ?_⟩
      rw [show ((2 : Int) ^ p.2) = ((2 ^ p.2 : Nat) : Int) by simp, bor_nat, natsC_set, List.getD_eq_getElem?_getD]
    · subst e
      simp [-List.getD_eq_getElem?_getD]
      rw [← rowsM_of (R := upR b) hl fun x hx a => ?_] at h
      · exact h
      rw [Bool.eq_iff_iff, g2 x a, pow_rows b.n x a hx, Bool.and_eq_true, decide_eq_true_eq]
      constructor
      · rintro (z | ⟨p, m, rfl, rfl⟩)
        · subst z; exact ⟨hx, ok.refl _ hx⟩
        · exact ⟨(mem_prs.mp m).2.1, (mem_prs.mp m).2.2.2⟩
      · rintro ⟨ha, z⟩
        by_cases e : a = x
        · exact .inl e
        · exact .inr ⟨(x, a), mem_prs.mpr ⟨hx, ha, fun z => e z.symm, z⟩, rfl, rfl⟩
def S_hill_of_lows : FS := fun cs K' => ∃ b : Hl, cs = [.im (.list (nats (rowsM b.n (dnR b))))] ∧ b.n ≤ 10 ∧ K' (.im (encH b))
theorem m_hill_of_lows : Main T_hill_of_lows N_hill_of_lows S_hill_of_lows := by
  rintro cs K' ⟨b, rfl, h1, h⟩
  simp [T_hill_of_lows]
  refine ⟨by omega, compGo2_fm (fun i => .int (i : Nat)) (fun i => .int (i : Nat)) (fun _ => List.range b.n) (fun a => [.im (.list (nats (rowsM b.n (dnR b)))), .im (.int b.n), .un, .im (.int (a : Nat)), .un]) (fun a c => decide (a ≠ c) && b.le a c) (fun a c => encP (a, c)) b.n (List.range b.n) []
    (fun a ha P P0 hP => ?_) (fun a ha c hc K1 K0 k1 k0 => ?_) (fun _ _ => by simp) (by simp; exact le_size (Nat.le_trans (Nat.mul_le_mul h1 h1) (by decide))) ?_⟩
  · simp
    exact ⟨by omega, by simpa using hP⟩
  · have ha' : a < b.n := by simpa using ha
    have hc' : c < b.n := by simpa using hc
    simp [nats_at (show c < (rowsM b.n (dnR b)).length by simpa using hc'), bit_at', rowsM_at _ hc', -List.getD_eq_getElem?_getD, ha']
    by_cases e : a = c
    · subst e; exact .inl ⟨rfl, k0 (by simp)⟩
    · have e' : ¬ (a : Int) = c := by omega
      refine .inr ⟨e', ?_⟩
      by_cases hbit : b.le a c = true
      · rw [if_pos hbit]
        exact k1 (by simp [e, hbit])
      · rw [if_neg hbit]
        exact k0 (by simp [hbit])
  · have e2 : seqF (.ow (((prs b).map encP).map .im)) = some ((prs b).map encP) := seqF_o
    simp [prs, List.map_flatMap, Function.comp_def] at e2
    simp [encH, prs, List.map_flatMap, Function.comp_def] at h ⊢
    exact ⟨_, e2, h⟩
def S_closing_of : FS := fun cs K' => ∃ b : Hl, cs = [.im (encH b)] ∧ b.ok ∧ K' (.im (encH b))
theorem forGo_inv {α : Type} (enc : α → D) (I : List Cell → Prop) {G : XG} {T : XS} {E : XEnds} (xs : List α) (γ : List Cell) (h : I γ) (hs : ∀ x ∈ xs, ∀ γ, I γ → ∀ nx : List Cell → Prop, (∀ γ', I γ' → nx γ') → G (enc x) γ fun γ2 => T { E with nx := nx, ct := nx, bk := E.nx } γ2) (he : ∀ γ, I γ → E.nx γ) : forGo G T E (xs.map enc) γ :=
  forGo_fold enc (fun _ _ => ()) (fun _ γ => I γ) () xs γ h (fun x m _ γ h => hs x m γ h) he
theorem m_closing_of : Main (T_closing_of S_lows S_hill_of_lows) N_closing_of S_closing_of := by
  rintro cs K' ⟨b, rfl, ok, h⟩
  have h5 := ok.top
  simp [T_closing_of]
  refine ⟨b, rfl, ok, ?_⟩
  simp [encH]
  refine ⟨by omega, forGo_inv (fun i => .int (i : Nat)) (fun γ => ∃ ca cb, γ = [Cell.im (.tuple [.int b.n, .tuple ((prs b).map encP)]), .ow ((nats (rowsM b.n (dnR b))).map .im), ca, cb]) (List.range b.n) _ ⟨.un, .un, rfl⟩ ?_ ?_⟩
  · rintro m hm γ ⟨ca, cb, rfl⟩ nx hn
    simp at hm
    simp
    refine ⟨by omega, forGo_inv (fun i => .int (i : Nat)) (fun γ => ∃ cb, γ = [Cell.im (.tuple [.int b.n, .tuple ((prs b).map encP)]), .ow ((nats (rowsM b.n (dnR b))).map .im), .im (.int m), cb]) (List.range b.n) _ ⟨cb, rfl⟩ ?_ ?_⟩
    · rintro x hx γ ⟨cb, rfl⟩ nx hn
      simp at hx
      have hx' : x < (rowsM b.n (dnR b)).length := by simpa using hx
      have hm' : m < (rowsM b.n (dnR b)).length := by simpa using hm
      simp [natsC_at hx', natsC_at hm', ixN_nat hx, bit_at', rowsM_at _ hx, rowsM_at _ hm, hm, -List.getD_eq_getElem?_getD]
      by_cases hb : b.le m x = true
      · rw [if_pos hb]
        refine hn _ ⟨.im (.int (x : Nat)), ?_⟩
        rw [bor_nat, mk_or, natsC_set]
        have : (rowsM b.n (dnR b)).set x (mk b.n fun a => b.le a x || b.le a m) = rowsM b.n (dnR b) := by
          refine rowsM_of (by simp) fun y hy a => ?_
          rw [getD_set _ _ _ _ hx']
          by_cases e : y = x
          · subst e
            rw [if_pos rfl, mk_bit]
            by_cases ha : a < b.n
            · simp [ha]
              exact fun z => ok.trans a m y ha hm hx z hb
            · simp [ha]
          · rw [if_neg e, rowsM_at _ hy, mk_bit]
        rw [this]
      · rw [if_neg hb]
        exact hn _ ⟨_, rfl⟩
    · rintro γ ⟨cb, rfl⟩
      exact hn _ ⟨_, _, rfl⟩
  · rintro γ ⟨ca, cb, rfl⟩
    simp
    exact ⟨b, rfl, h5, h⟩
@[simp] theorem lay_encP (p : Nat × Nat) : PyData.canLay0 (encP p) = true := by simp [encP]
@[simp] theorem dep_encP (p : Nat × Nat) : PyData.depth (encP p) = 1 := by simp [encP]
@[simp] theorem lay_encH (b : Hl) : PyData.canLay0 (encH b) = true := by simp [encH]; exact layAll_map fun _ _ => by simp
@[simp] theorem dep_encH (b : Hl) : PyData.depth (encH b) ≤ 3 := by
  have := depAll_map (f := encP) (l := prs b) (m := 1) fun _ _ => by simp
  simp [encH]
  omega
end L87
set_option maxHeartbeats 1000000
namespace L87
open PySem PySem.Spec PyProof.Rows L2 DL
mutual
theorem eqv_self : ∀ d : D, okD d = true → PyData.eqv d d = true
  | .none, _ => by simp
  | .bool b, _ => by simp
  | .int i, _ => by simp
  | .str s, _ => by simp
  | .list xs, h => by simp only [PyData.eqv]; exact eqvAll_self xs (by simpa [okD] using h)
  | .tuple xs, h => by simp only [PyData.eqv]; exact eqvAll_self xs (by simpa [okD] using h)
  | .dict kvs, h => by simp [okD] at h
theorem eqvAll_self : ∀ ds : List D, okDs ds = true → PyData.eqvAll ds ds = true
  | [], _ => by simp
  | d :: ds, h => by
    simp only [okDs, Bool.and_eq_true] at h
    simp only [PyData.eqvAll, Bool.and_eq_true]
    exact ⟨eqv_self d h.1, eqvAll_self ds h.2⟩
end
theorem okDs_map {α : Type} {f : α → D} : ∀ {l : List α}, (∀ x ∈ l, okD (f x) = true) → okDs (l.map f) = true
  | [], _ => by simp [okDs]
  | x :: l, h => by
    simp only [List.map_cons, okDs, Bool.and_eq_true]
    exact ⟨h x List.mem_cons_self, okDs_map fun y m => h y (List.mem_cons_of_mem _ m)⟩
theorem okD_encH (b : Hl) : okD (encH b) = true := by
  simp [encH, okD, okDs]
  exact okDs_map fun p _ => by simp [encP, okD, okDs]
def S_is_hill_value : FS := fun cs K' => ∃ b : Hl, cs = [.im (encH b)] ∧ b.ok ∧ K' (.im (.bool true))
theorem m_is_hill_value : Main (T_is_hill_value S_is_book_value S_closing_of) N_is_hill_value S_is_hill_value := by
  rintro cs K' ⟨b, rfl, ok, h⟩
  have h3 := dep_encH b
  simp [T_is_hill_value, -Bool.exists_bool]
  refine ⟨b, rfl, ok, true, rfl, ?_⟩
  rw [if_pos rfl]
  refine ⟨b, rfl, ok, ?_⟩
  simp [eqv_self _ (okD_encH b)]
  exact ⟨by omega, h⟩
def S_need_hill : FS := fun cs K' => ∃ b : Hl, cs = [.im (encH b)] ∧ b.ok ∧ K' (.im .none)
theorem m_need_hill : Main (T_need_hill S_is_hill_value) N_need_hill S_need_hill := by
  rintro cs K' ⟨b, rfl, ok, h⟩
  simp [T_need_hill, -Bool.exists_bool]
  exact ⟨b, rfl, ok, true, rfl, by simpa using h⟩
def S_mask_of : FS := fun cs K' => ∃ (c : Cell) (n : Nat) (S : Nat → Bool), cs = [c] ∧ (c = .im (encL (lotL n S)) ∨ c = .ow ((nats (lotL n S)).map .im)) ∧ n ≤ 12 ∧ K' (.im (.int (mk n S : Nat)))
theorem m_mask_of : Main T_mask_of N_mask_of S_mask_of := by
  rintro cs K' ⟨c, n, S, rfl, hc, h1, h⟩
  have hl : ∀ x ∈ lotL n S, x < 12 := fun x m => by have := (mem_lotL.mp m).1; omega
  have key : ∀ c0 : Cell, forGo (gNm 2) (sSet 1 (x2 (cI0 Builtin.bitOr) (xVarR 1) (x2 (cI CPow fun i j => i * 2 ^ j.toNat) (xC (.int 1)) (xVarR 2)))) { nx := fun γ => sRetV 1 { nx := fun _ => K' (.im .none), rt := K' } γ, rt := K' } ((lotL n S).map encN) [c0, .im (.int 0), .un] := by
    intro c0
    refine forGo_fold encN (fun m x => m ||| 2 ^ x) (fun m γ => ∃ ca, γ = [c0, .im (.int (m : Nat)), ca]) 0 (lotL n S) _ ⟨.un, rfl⟩ ?_ ?_
    · rintro x hx m γ ⟨ca, rfl⟩ nx hn
      simp [encN, cpow_one x (by have := hl x hx; omega)]
      refine hn _ ⟨.im (.int (x : Nat)), ?_⟩
      rw [show ((2 : Int) ^ x) = ((2 ^ x : Nat) : Int) by simp, bor_nat]
    · rintro γ ⟨ca, rfl⟩
      simpa [mk, maskOf] using h
  rcases hc with rfl | rfl
  · simp [T_mask_of, encL]
    exact key _
  · simp [T_mask_of, -List.map_map]
    exact key _
def S_lot_of : FS := fun cs K' => ∃ (n : Nat) (S : Nat → Bool), cs = [.im (.int (mk n S : Nat))] ∧ n ≤ 12 ∧ K' (.im (encL (lotL n S)))
theorem m_lot_of : Main T_lot_of N_lot_of S_lot_of := by
  rintro cs K' ⟨n, S, rfl, h1, h⟩
  have hb := bits_le (mk_lt S h1)
  simp [T_lot_of]
  refine ⟨by omega, compGo_fm encN (fun x => (mk n S).testBit x) encN (List.range (Builtin.Int.intBits (mk n S : Nat))) (fun x hx K1 K0 k1 k0 => ?_) ?_⟩
  · simp only [encN]
    simp [bit_at', -mk_bit]
    by_cases e : (mk n S).testBit x = true
    · rw [if_pos e]; exact k1 e
    · rw [if_neg e]; exact k0 (by simpa using e)
  · rw [bits_lot]
    exact ⟨_, seqF_o, h⟩
def S_is_lot_value : FS := fun cs K' => ∃ (b : Hl) (S : Nat → Bool), cs = [.im (encH b), .im (encL (lotL b.n S))] ∧ K' (.im (.bool true))
theorem m_is_lot_value : Main (T_is_lot_value S_is_between) N_is_lot_value S_is_lot_value := by
  rintro cs K' ⟨b, S, rfl, h⟩
  simp [T_is_lot_value, encL]
  refine comp_trues encN (lotL b.n S) (fun x hx K1 K0 h => ?_) ⟨_, lstF_trues _, ?_⟩
  · have e : isBtw 0 ((b.n : Int) - 1) (.int x) = true := by have := (mem_lotL.mp hx).1; simp [isBtw]; omega
    simp [S_is_between, encN, encH, noDict, e, h]
  rw [if_neg (no_false _), show (fun x : Nat => PyData.int (x : Nat)) = encN from rfl, zip_next_map]
  refine comp_trues _ _ (fun p hp K1 K0 h => ?_) ⟨_, lstF_trues _, by simpa using h⟩
  have := pair_next (asc_lotL b.n S) p hp
  simp [encN, ordB, ltB]
  exact bool_to (by simpa using this) h
theorem or_fold (n : Nat) (R : Nat → Nat → Bool) : ∀ (l : List Nat) (S : Nat → Bool), (∀ x ∈ l, x < n) → l.foldl (fun m x => m ||| (rowsM n R).getD x 0) (mk n S) = mk n fun a => S a || l.any fun x => R x a
  | [], S, _ => mk_ext fun a _ => by simp
  | x :: l, S, h => by
    rw [List.foldl_cons, rowsM_at R (h x List.mem_cons_self), mk_or, or_fold n R l _ fun y m => h y (List.mem_cons_of_mem _ m)]
    exact mk_ext fun a _ => by simp [Bool.or_assoc]
def S_closed_mask : FS := fun cs K' => ∃ (n : Nat) (R : Nat → Nat → Bool) (S : Nat → Bool), cs = [.ow ((nats (rowsM n R)).map .im), .im (.int (mk n S : Nat))] ∧ n ≤ 12 ∧ K' (.im (.int (mk n (fun a => (lotL n S).any fun x => R x a) : Nat)))
theorem m_closed_mask : Main (T_closed_mask S_lot_of) N_closed_mask S_closed_mask := by
  rintro cs K' ⟨n, R, S, rfl, h1, h⟩
  simp [T_closed_mask]
  refine ⟨n, S, rfl, h1, ?_⟩
  simp [encL]
  refine forGo_fold encN (fun m x => m ||| (rowsM n R).getD x 0) (fun M γ => ∃ ca, γ = [.ow ((nats (rowsM n R)).map .im), .im (.int (mk n S : Nat)), .im (.int (M : Nat)), ca]) 0 (lotL n S) _ ⟨.un, rfl⟩ ?_ ?_
  · rintro x hx M γ ⟨ca, rfl⟩ nx hn
    have hx' : x < (rowsM n R).length := by simpa using (mem_lotL.mp hx).1
    simp [encN, natsC_at hx', bor_nat, -List.getD_eq_getElem?_getD]
    exact hn _ ⟨_, rfl⟩
  · rintro γ ⟨ca, rfl⟩
    have e := or_fold n R (lotL n S) (fun _ => false) fun x m => (mem_lotL.mp m).1
    rw [mk_zero] at e
    simp [-List.getD_eq_getElem?_getD]
    rw [e]
    simpa using h
def S_lower_mask : FS := fun cs K' => ∃ (b : Hl) (S : Nat → Bool), cs = [.im (encH b), .im (.int (mk b.n S : Nat))] ∧ b.ok ∧ K' (.im (.int (mk b.n (fun a => (lotL b.n S).any fun x => b.le a x) : Nat)))
theorem m_lower_mask : Main (T_lower_mask S_closed_mask S_lows) N_lower_mask S_lower_mask := by
  rintro cs K' ⟨b, S, rfl, ok, h⟩
  have := ok.top
  simp [T_lower_mask]
  exact ⟨b, rfl, ok, b.n, dnR b, S, rfl, by omega, h⟩
/-- closed towards below -/
def LowS (b : Hl) (S : Nat → Bool) : Prop := ∀ a x, a < b.n → x < b.n → b.le a x = true → S x = true → S a = true
def S_is_lower_value : FS := fun cs K' => ∃ (b : Hl) (S : Nat → Bool), cs = [.im (encH b), .im (encL (lotL b.n S))] ∧ b.ok ∧ LowS b S ∧ K' (.im (.bool true))
theorem m_is_lower_value : Main (T_is_lower_value S_is_lot_value S_lower_mask S_mask_of) N_is_lower_value S_is_lower_value := by
  rintro cs K' ⟨b, S, rfl, ok, low, h⟩
  have := ok.top
  simp [T_is_lower_value, -Bool.exists_bool]
  refine ⟨b, S, rfl, true, rfl, ?_⟩
  rw [if_pos rfl]
  refine ⟨_, b.n, S, rfl, .inl rfl, by omega, b, S, rfl, ok, _, b.n, S, rfl, .inl rfl, by omega, ?_⟩
  have e : mk b.n (fun a => (lotL b.n S).any fun x => b.le a x) = mk b.n S := mk_ext fun a ha => by
    rw [Bool.eq_iff_iff, List.any_eq_true]
    constructor
    · rintro ⟨x, m, q⟩
      obtain ⟨hx, sx⟩ := mem_lotL.mp m
      exact low a x ha hx q sx
    · intro s
      exact ⟨a, mem_lotL.mpr ⟨ha, s⟩, ok.refl a ha⟩
  rw [e]
  simpa using h
def S_ends_of : FS := fun cs K' => ∃ (n : Nat) (R R' : Nat → Nat → Bool) (S : Nat → Bool), cs = [.ow ((nats (rowsM n R)).map .im), .ow ((nats (rowsM n R')).map .im), .im (.int (mk n S : Nat))] ∧ n ≤ 12 ∧ (∀ x, x < n → R x x = true ∧ R' x x = true) ∧
  K' (.ow ((nats (lotL n (endB n R R' S))).map .im))
theorem head_least {n : Nat} {P : Nat → Bool} {x : Nat} (hx : x < n) (px : P x = true) : ∃ y, (lotL n P)[0]? = some y ∧ y < n ∧ P y = true ∧ ∀ z, z < y → P z = false := by
  have m : x ∈ lotL n P := mem_lotL.mpr ⟨hx, px⟩
  have asc := asc_lotL n P
  cases e : lotL n P with
  | nil => rw [e] at m; cases m
  | cons y r =>
    have my : y ∈ lotL n P := by rw [e]; exact List.mem_cons_self
    obtain ⟨hy, py⟩ := mem_lotL.mp my
    refine ⟨y, rfl, hy, py, fun z hz => ?_⟩
    cases q : P z with
    | false => rfl
    | true =>
      have mz : z ∈ lotL n P := mem_lotL.mpr ⟨by omega, q⟩
      rw [e] at mz asc
      rcases List.mem_cons.mp mz with h | h
      · omega
      · have := (List.pairwise_cons.mp asc).1 z h
        omega
theorem m_ends_of : Main (T_ends_of S_lot_of) N_ends_of S_ends_of := by
  rintro cs K' ⟨n, R, R', S, rfl, h1, hr, h⟩
  simp [T_ends_of]
  refine ⟨n, S, rfl, h1, ?_⟩
  simp [encL]
  refine forGo_enc encN (I := fun rest γ => ∃ done c4 c5, γ = [.ow ((nats (rowsM n R)).map .im), .ow ((nats (rowsM n R')).map .im), .im (.int (mk n S : Nat)), .ow ((nats (done.filter (endB n R R' S))).map .im), c4, c5] ∧ done ++ rest = lotL n S) ?_ ?_ (lotL n S) _ ⟨[], .un, .un, rfl, rfl⟩
  · rintro γ ⟨done, c4, c5, rfl, e⟩
    rw [List.append_nil] at e
    subst e
    have e2 : (lotL n S).filter (endB n R R' S) = lotL n (endB n R R' S) := by
      unfold lotL
      rw [List.filter_filter]
      refine List.filter_congr fun x _ => ?_
      cases q : endB n R R' S x with
      | false => rfl
      | true => rw [(endB_iff.mp q).1]; rfl
    rw [e2]
    simpa using h
  · rintro x rest γ ⟨done, c4, c5, rfl, e⟩ nx hn
    have mx : x ∈ lotL n S := by rw [← e]; simp
    obtain ⟨hx, sx⟩ := mem_lotL.mp mx
    have hx1 : x < (rowsM n R).length := by simpa using hx
    have hx2 : x < (rowsM n R').length := by simpa using hx
    have hn2 : ∀ (bb : Bool) c5, endB n R R' S x = bb → nx [.ow ((nats (rowsM n R)).map .im), .ow ((nats (rowsM n R')).map .im), .im (.int (mk n S : Nat)), .ow ((nats (done.filter (endB n R R' S) ++ if bb = true then [x] else [])).map .im), .im (.int (x : Nat)), c5] := by
      intro bb c5 eb
      refine hn _ ⟨done ++ [x], .im (.int (x : Nat)), c5, ?_, by rw [List.append_assoc]; exact e⟩
      have e1 : [x].filter (endB n R R' S) = if bb = true then [x] else [] := by cases bb <;> simp [eb]
      rw [List.filter_append, e1]
    have hlen : (done.filter (endB n R R' S)).length ≤ n := by
      have h2 := List.length_filter_le (endB n R R' S) done
      have h3 := len_lotL n S
      rw [← e, List.length_append] at h3
      omega
    simp [encN, natsC_at hx1, natsC_at hx2, rowsM_at _ hx, band_nat, mk_and, -List.getD_eq_getElem?_getD]
    have iff1 : ((mk n fun a => R x a && S a) = mk n fun a => R x a && R' x a && S a) ↔ ∀ y, y < n → S y = true → R x y = true → R' x y = true := by
      constructor
      · intro q y hy s r
        have := mk_inj q y hy
        simpa [s, r] using this
      · intro q
        refine mk_ext fun y hy => ?_
        cases s : S y <;> cases r : R x y <;> simp
        exact q y hy s r
    by_cases c1 : (mk n fun a => R x a && S a) = mk n fun a => R x a && R' x a && S a
    · rw [if_pos (by rw [c1])]
      refine ⟨n, _, rfl, h1, ?_⟩
      obtain ⟨y, hy0, hyn, py, hlow⟩ := head_least (P := fun a => R x a && R' x a && S a) hx (by simp [(hr x hx).1, (hr x hx).2, sx])
      have e0 : atI (nats (lotL n fun a => R x a && R' x a && S a)) 0 = some (.int (y : Nat)) := by
        have hl : 0 < (lotL n fun a => R x a && R' x a && S a).length := (List.getElem?_eq_some_iff.mp hy0).1
        have := nats_at hl
        rw [List.getD_eq_getElem?_getD, hy0] at this
        simpa using this
      simp [encL]
      rw [show (List.map (fun x : Nat => PyData.int (x : Nat)) (lotL n fun a => R x a && R' x a && S a)) = nats (lotL n fun a => R x a && R' x a && S a) from rfl, e0]
      simp
      by_cases c2 : y = x
      · subst c2
        have eb : endB n R R' S y = true := endB_iff.mpr ⟨sx, iff1.mp c1, fun z hz hl s r r' => by have := hlow z hl; simp [s, r, r'] at this⟩
        rw [if_pos rfl]
        refine ⟨lt_size (by omega), ?_⟩
        have := hn2 true (.im (.int (mk n fun a => R y a && R' y a && S a : Nat))) eb
        simpa [nats] using this
      · have eb : endB n R R' S x = false := by
          cases q : endB n R R' S x with
          | false => rfl
          | true =>
            obtain ⟨_, _, q3⟩ := endB_iff.mp q
            simp only [Bool.and_eq_true] at py
            have lt : y < x := by
              rcases Nat.lt_trichotomy y x with g | g | g
              · exact g
              · exact absurd g c2
              · have := hlow x g
                simp [(hr x hx).1, (hr x hx).2, sx] at this
            exact (q3 y hyn lt py.2 py.1.1 py.1.2).elim
        rw [if_neg (by omega)]
        have := hn2 false (.im (.int (mk n fun a => R x a && R' x a && S a : Nat))) eb
        simpa [nats] using this
    · have eb : endB n R R' S x = false := by
        cases q : endB n R R' S x with
        | false => rfl
        | true => exact absurd (iff1.mpr (endB_iff.mp q).2.1) c1
      rw [if_neg (fun z => c1 (by omega))]
      have := hn2 false (.im (.int (mk n fun a => R x a && R' x a && S a : Nat))) eb
      simpa [nats] using this
def S_highest_of : FS := fun cs K' => ∃ (b : Hl) (S : Nat → Bool), cs = [.im (encH b), .im (.int (mk b.n S : Nat))] ∧ b.ok ∧ K' (.ow ((nats (lotL b.n (endB b.n (upR b) (dnR b) S))).map .im))
theorem m_highest_of : Main (T_highest_of S_ends_of S_highs S_lows) N_highest_of S_highest_of := by
  rintro cs K' ⟨b, S, rfl, ok, h⟩
  have := ok.top
  simp [T_highest_of]
  exact ⟨b, rfl, ok, b, rfl, ok, b.n, upR b, dnR b, S, rfl, by omega, fun x hx => ⟨ok.refl x hx, ok.refl x hx⟩, h⟩
def S_lowest_of : FS := fun cs K' => ∃ (b : Hl) (S : Nat → Bool), cs = [.im (encH b), .im (.int (mk b.n S : Nat))] ∧ b.ok ∧ K' (.ow ((nats (lotL b.n (endB b.n (dnR b) (upR b) S))).map .im))
theorem m_lowest_of : Main (T_lowest_of S_ends_of S_lows S_highs) N_lowest_of S_lowest_of := by
  rintro cs K' ⟨b, S, rfl, ok, h⟩
  have := ok.top
  simp [T_lowest_of]
  exact ⟨b, rfl, ok, b, rfl, ok, b.n, dnR b, upR b, S, rfl, by omega, fun x hx => ⟨ok.refl x hx, ok.refl x hx⟩, h⟩
end L87
set_option maxHeartbeats 1000000
namespace L87
open PySem PySem.Spec PyProof.Rows L2 DL
def S_is_deed_value : FS := fun cs K' => ∃ (n : Nat) (d : Deed), cs = [.im (.int n), .im (encDeed d)] ∧ d.2 < n ∧ K' (.im (.bool true))
theorem m_is_deed_value : Main (T_is_deed_value S_is_between) N_is_deed_value S_is_deed_value := by
  rintro cs K' ⟨n, ⟨w, x⟩, rfl, h1, h⟩
  have e : isBtw 0 ((n : Int) - 1) (.int x) = true := by simp at h1; simp [isBtw]; omega
  cases w <;> simp [T_is_deed_value, encDeed, wd, S_is_between, noDict, e, h]
def InS (n : Nat) (s : List Deed) : Prop := ∀ d ∈ s, d.2 < n
def S_is_script_value : FS := fun cs K' => ∃ (n : Nat) (s : List Deed), cs = [.im (.int n), .im (encS s)] ∧ InS n s ∧ K' (.im (.bool true))
theorem m_is_script_value : Main (T_is_script_value S_is_deed_value) N_is_script_value S_is_script_value := by
  rintro cs K' ⟨n, s, rfl, h1, h⟩
  simp [T_is_script_value, encS]
  refine comp_trues encDeed s (fun d hd K1 K0 h => ?_) ⟨_, lstF_trues s, ?_⟩
  · simp
    exact ⟨n, d, rfl, h1 d hd, h⟩
  · simpa using h
def S_need_script : FS := fun cs K' => ∃ (n : Nat) (s : List Deed), cs = [.im (.int n), .im (encS s)] ∧ InS n s ∧ K' (.im .none)
theorem m_need_script : Main (T_need_script S_is_script_value) N_need_script S_need_script := by
  rintro cs K' ⟨n, s, rfl, h1, h⟩
  simp [T_need_script, -Bool.exists_bool]
  exact ⟨n, s, rfl, h1, true, rfl, by simpa using h⟩
theorem rch_t (b : Hl) (x : Nat) : rch b (true, x) = fun a => b.le a x := by funext a; simp [rch]
theorem rch_f (b : Hl) (x : Nat) : rch b (false, x) = fun a => b.le x a := by funext a; simp [rch]
def rchL (b : Hl) (s : List Deed) : List Nat := s.map fun d => mk b.n (rch b d)
def S_reaches : FS := fun cs K' => ∃ (b : Hl) (s : List Deed), cs = [.im (encH b), .im (encS s)] ∧ b.ok ∧ InS b.n s ∧ K' (.ow ((nats (rchL b s)).map .im))
theorem m_reaches : Main (T_reaches S_lows S_highs) N_reaches S_reaches := by
  rintro cs K' ⟨b, s, rfl, ok, hs, h⟩
  simp [T_reaches]
  refine ⟨b, rfl, ok, b, rfl, ok, ?_⟩
  simp [encS]
  refine compGo_map encDeed (fun d => .int (mk b.n (rch b d) : Nat)) s (fun d hd K1 K0 hk => ?_) (by simpa [nats, rchL, Function.comp_def] using h)
  obtain ⟨w, x⟩ := d
  have hx : x < b.n := hs _ hd
  have h1 : x < (rowsM b.n (dnR b)).length := by simpa using hx
  have h2 : x < (rowsM b.n (upR b)).length := by simpa using hx
  cases w <;> simp [encDeed, wd, natsC_at h1, natsC_at h2, rowsM_at _ hx, -List.getD_eq_getElem?_getD]
  · rw [rch_f] at hk; exact hk
  · rw [rch_t] at hk; exact hk
def S_reach_mask : FS := fun cs K' => ∃ (b : Hl) (d : Deed), cs = [.im (encH b), .im (encDeed d)] ∧ b.ok ∧ d.2 < b.n ∧ K' (.im (.int (mk b.n (rch b d) : Nat)))
theorem m_reach_mask : Main (T_reach_mask S_reaches) N_reach_mask S_reach_mask := by
  rintro cs K' ⟨b, d, rfl, ok, hd, h⟩
  simp [T_reach_mask, toDs, toD]
  refine ⟨b, [d], rfl, ok, fun e m => by rw [List.mem_singleton.mp m]; exact hd, ?_⟩
  have e : atI ((nats (rchL b [d])).map Cell.im) 0 = some (.im (.int (mk b.n (rch b d) : Nat))) := by
    have := natsC_at (f := rchL b [d]) (k := 0) (by simp [rchL])
    simpa [rchL] using this
  simp [e]
  exact h
theorem zip_self {α β : Type} (g : α → β) : ∀ s : List α, s.zip (s.map g) = s.map fun d => (d, g d)
  | [] => rfl
  | d :: s => by simp [zip_self g s]
def stepS (b : Hl) (S : Nat → Bool) (d : Deed) : Nat → Bool := fun x => if d.1 = true then S x || rch b d x else S x && !rch b d x
theorem stepS_t (b : Hl) (S : Nat → Bool) (x : Nat) : stepS b S (true, x) = fun a => S a || rch b (true, x) a := by funext a; simp [stepS]
theorem stepS_f (b : Hl) (S : Nat → Bool) (x : Nat) : stepS b S (false, x) = fun a => S a && !rch b (false, x) a := by funext a; simp [stepS]
theorem fold_behind (b : Hl) (x : Nat) : ∀ (s : List Deed) (S : Nat → Bool), s.foldl (stepS b) S x = behind b S s x
  | [], S => by simp [behind]
  | d :: s, S => by
    rw [List.foldl_cons, fold_behind b x s]
    unfold behind
    rw [sem_cons, sem_or b x s (if rch b d x = true then some d.1 else none)]
    cases sem b s x none with
    | some w => rfl
    | none =>
      simp [stepS]
      cases d.1 <;> cases rch b d x <;> simp
def S_done : FS := fun cs K' => ∃ (b : Hl) (S : Nat → Bool) (s : List Deed), cs = [.im (encH b), .im (.int (mk b.n S : Nat)), .im (encS s)] ∧ b.ok ∧ InS b.n s ∧ K' (.im (.int (mk b.n (behind b S s) : Nat)))
theorem m_done : Main (T_done S_reaches) N_done S_done := by
  rintro cs K' ⟨b, S, s, rfl, ok, hs, h⟩
  simp [T_done]
  refine ⟨b, s, rfl, ok, hs, ?_⟩
  have e : zipD (s.map encDeed) (nats (rchL b s)) = s.map fun d => .tuple [encDeed d, .int (mk b.n (rch b d) : Nat)] := by
    show zipD (s.map encDeed) ((rchL b s).map fun x : Nat => PyData.int (x : Nat)) = _
    rw [zipD_map, rchL, zip_self, List.map_map]; rfl
  simp [encS, e]
  refine forGo_fold (fun d => .tuple [encDeed d, .int (mk b.n (rch b d) : Nat)]) (stepS b) (fun S γ => ∃ c3 c4, γ = [.im (encH b), .im (.int (mk b.n S : Nat)), .im (.tuple (s.map encDeed)), c3, c4]) S s _ ⟨.un, .un, rfl⟩ ?_ ?_
  · rintro ⟨w, x⟩ hd S γ ⟨c3, c4, rfl⟩ nx hn
    cases w
    · simp [encDeed, wd, mk_diff]
      rw [stepS_f] at hn
      exact hn _ ⟨_, _, rfl⟩
    · simp [encDeed, wd, bor_nat, mk_or]
      rw [stepS_t] at hn
      exact hn _ ⟨_, _, rfl⟩
  · rintro γ ⟨c3, c4, rfl⟩
    rw [mk_ext fun a _ => fold_behind b a s S]
    simpa using h
def wetS (b : Hl) (s : List Deed) : Nat → Bool := fun x => (sem b s x none).getD false
def dryS (b : Hl) (s : List Deed) : Nat → Bool := fun x => !(sem b s x none).getD true
def stepD (b : Hl) (S : Nat → Bool) (d : Deed) : Nat → Bool := fun x => if d.1 = true then S x && !rch b d x else S x || rch b d x
theorem stepD_t (b : Hl) (S : Nat → Bool) (x : Nat) : stepD b S (true, x) = fun a => S a && !rch b (true, x) a := by funext a; simp [stepD]
theorem stepD_f (b : Hl) (S : Nat → Bool) (x : Nat) : stepD b S (false, x) = fun a => S a || rch b (false, x) a := by funext a; simp [stepD]
theorem fold_dry (b : Hl) (x : Nat) : ∀ (s : List Deed) (S : Nat → Bool), s.foldl (stepD b) S x = !(sem b s x none).getD (!S x)
  | [], S => by simp
  | d :: s, S => by
    rw [List.foldl_cons, fold_dry b x s, sem_cons, sem_or b x s (if rch b d x = true then some d.1 else none)]
    cases sem b s x none with
    | some w => rfl
    | none =>
      simp [stepD]
      cases d.1 <;> cases rch b d x <;> simp
def S_couple_masks : FS := fun cs K' => ∃ (b : Hl) (s : List Deed), cs = [.im (encH b), .im (encS s)] ∧ b.ok ∧ InS b.n s ∧ K' (.im (.tuple [.int (mk b.n (wetS b s) : Nat), .int (mk b.n (dryS b s) : Nat)]))
theorem m_couple_masks : Main (T_couple_masks S_reaches) N_couple_masks S_couple_masks := by
  rintro cs K' ⟨b, s, rfl, ok, hs, h⟩
  simp [T_couple_masks, toDs, toD]
  refine ⟨b, s, rfl, ok, hs, ?_⟩
  have e : zipD (s.map encDeed) (nats (rchL b s)) = s.map fun d => .tuple [encDeed d, .int (mk b.n (rch b d) : Nat)] := by
    show zipD (s.map encDeed) ((rchL b s).map fun x : Nat => PyData.int (x : Nat)) = _
    rw [zipD_map, rchL, zip_self, List.map_map]; rfl
  simp [encS, e]
  refine forGo_fold (fun d => .tuple [encDeed d, .int (mk b.n (rch b d) : Nat)]) (fun (p : (Nat → Bool) × (Nat → Bool)) d => (stepS b p.1 d, stepD b p.2 d)) (fun p γ => ∃ c3 c4, γ = [.im (encH b), .im (.tuple (s.map encDeed)), .im (.int (mk b.n p.1 : Nat)), .im (.int (mk b.n p.2 : Nat)), c3, c4]) (fun _ => false, fun _ => false) s _ ⟨.un, .un, by simp [mk_zero]⟩ ?_ ?_
  · rintro ⟨w, x⟩ hd ⟨S, U⟩ γ ⟨c3, c4, rfl⟩ nx hn
    cases w
    · simp [encDeed, wd, mk_diff, bor_nat, mk_or]
      simp only [stepS_f, stepD_f] at hn
      exact hn _ ⟨_, _, rfl⟩
    · simp [encDeed, wd, mk_diff, bor_nat, mk_or]
      simp only [stepS_t, stepD_t] at hn
      exact hn _ ⟨_, _, rfl⟩
  · rintro γ ⟨c3, c4, rfl⟩
    have f1 : ∀ (s : List Deed) (p : (Nat → Bool) × (Nat → Bool)), s.foldl (fun (p : (Nat → Bool) × (Nat → Bool)) d => (stepS b p.1 d, stepD b p.2 d)) p = (s.foldl (stepS b) p.1, s.foldl (stepD b) p.2) := by
      intro s
      induction s with
      | nil => intro p; rfl
      | cons d s ih => intro p; rw [List.foldl_cons, ih]; rfl
    rw [f1]
    simp only []
    rw [mk_ext (T := wetS b s) fun a _ => fold_behind b a s _, mk_ext (S := s.foldl (stepD b) fun _ => false) (T := dryS b s) fun a _ => by rw [fold_dry]; rfl]
    simp [toDs, toD]
    exact h
def S_need_hills : FS := fun cs K' => ∃ b g : Hl, cs = [.im (encH b), .im (encH g)] ∧ b.ok ∧ g.ok ∧ K' (.im .none)
theorem m_need_hills : Main (T_need_hills S_need_hill) N_need_hills S_need_hills := by
  rintro cs K' ⟨b, g, rfl, ok, ok2, h⟩
  simp [T_need_hills]
  exact ⟨b, rfl, ok, g, rfl, ok2, h⟩
def encM (n : Nat) (f : Nat → Nat) : D := encL ((List.range n).map f)
theorem mapL_at {n x : Nat} (f : Nat → Nat) (h : x < n) : atI (nats ((List.range n).map f)) (x : Int) = some (.int (f x : Nat)) := by
  rw [nats_at (by simpa using h), List.getD_eq_getElem?_getD]
  simp [h]
def S_is_map_value : FS := fun cs K' => ∃ (b g : Hl) (f : Nat → Nat), cs = [.im (encH b), .im (encH g), .im (encM b.n f)] ∧ b.ok ∧ g.ok ∧ MapOk b g f ∧ K' (.im (.bool true))
theorem m_is_map_value : Main (T_is_map_value S_is_between S_lows) N_is_map_value S_is_map_value := by
  rintro cs K' ⟨b, g, f, rfl, ok, ok2, mo, h⟩
  have e0 : ((List.range b.n).map f).map (fun x => PyData.int (x : Nat)) = nats ((List.range b.n).map f) := rfl
  simp [T_is_map_value, encM, encL, encH, -List.map_map, e0]
  rw [show nats ((List.range b.n).map f) = ((List.range b.n).map f).map encN from rfl]
  refine comp_trues encN ((List.range b.n).map f) (fun y hy K1 K0 h => ?_) ⟨_, lstF_trues _, ?_⟩
  · obtain ⟨x, hx, rfl⟩ := List.mem_map.mp hy
    have e : isBtw 0 ((g.n : Int) - 1) (.int (f x : Nat)) = true := by have := mo.lt x (by simpa using hx); simp [isBtw]; omega
    simp [S_is_between, encN, noDict, e, h]
  rw [if_neg (no_false _)]
  refine ⟨g, rfl, ok2, ?_⟩
  refine comp_trues encP (prs b) (fun p hp K1 K0 h => ?_) ⟨_, lstF_trues _, by simpa using h⟩
  obtain ⟨h1, h2, h3, h4⟩ := mem_prs.mp hp
  have hb : f p.2 < (rowsM g.n (dnR g)).length := by simpa using mo.lt _ h2
  have e5 : g.le (f p.1) (f p.2) = true := mo.mono _ _ h1 h2 h4
  have e1 : atI (((List.range b.n).map f).map encN) (p.1 : Int) = some (.int (f p.1 : Nat)) := mapL_at f h1
  have e2 : atI (((List.range b.n).map f).map encN) (p.2 : Int) = some (.int (f p.2 : Nat)) := mapL_at f h2
  simp [encP, e1, e2, natsC_at hb, rowsM_at _ (mo.lt _ h2), bit_at', mo.lt _ h1, e5, -List.getD_eq_getElem?_getD, -List.map_map]
  exact h
def S_need_map : FS := fun cs K' => ∃ (b g : Hl) (f : Nat → Nat), cs = [.im (encH b), .im (encH g), .im (encM b.n f)] ∧ b.ok ∧ g.ok ∧ MapOk b g f ∧ K' (.im .none)
theorem m_need_map : Main (T_need_map S_need_hills S_is_map_value) N_need_map S_need_map := by
  rintro cs K' ⟨b, g, f, rfl, ok, ok2, mo, h⟩
  simp [T_need_map, -Bool.exists_bool]
  exact ⟨b, g, rfl, ok, ok2, b, g, f, rfl, ok, ok2, mo, true, rfl, by simpa using h⟩
def S_need_water_maps : FS := fun cs K' => ∃ (b : Hl) (S : Nat → Bool), cs = [.im (encH b), .im (encL (lotL b.n S))] ∧ b.ok ∧ LowS b S ∧ K' (.im .none)
theorem m_need_water_maps : Main (T_need_water_maps S_is_lower_value) N_need_water_maps S_need_water_maps := by
  rintro cs K' ⟨b, S, rfl, ok, low, h⟩
  simp [T_need_water_maps, -Bool.exists_bool]
  exact ⟨b, S, rfl, ok, low, true, rfl, by simpa using h⟩
theorem enum_map (n : Nat) (f : Nat → Nat) : enumD (((List.range n).map f).map fun x => PyData.int (x : Nat)) = (List.range n).map fun x => .tuple [.int (x : Nat), .int (f x : Nat)] := by
  rw [enumD_map]
  apply List.ext_getElem
  · simp
  · intro i h1 h2
    simp
def S_carried_mask : FS := fun cs K' => ∃ (n m : Nat) (f : Nat → Nat) (S : Nat → Bool), cs = [.im (encM n f), .im (.int (mk m S : Nat))] ∧ n ≤ 12 ∧ (∀ x, x < n → f x < m) ∧ K' (.im (.int (mk n (fun x => S (f x)) : Nat)))
theorem m_carried_mask : Main (T_carried_mask S_mask_of) N_carried_mask S_carried_mask := by
  rintro cs K' ⟨n, m, f, S, rfl, h1, hf, h⟩
  simp only [T_carried_mask, encM, encL]
  simp [enum_map, -List.map_map]
  refine compGo_fm (fun x : Nat => PyData.tuple [.int (x : Nat), .int (f x : Nat)]) (fun x => S (f x)) encN (List.range n) (fun x hx K1 K0 k1 k0 => ?_) ?_
  · have hx' : x < n := by simpa using hx
    simp [bit_at', hf x hx']
    by_cases e : S (f x) = true
    · rw [if_pos e]; exact k1 e
    · rw [if_neg e]; exact k0 (by simpa using e)
  · exact ⟨_, n, fun x => S (f x), rfl, .inr rfl, h1, h⟩
theorem LowS.back {b g : Hl} {f : Nat → Nat} {S : Nat → Bool} (mo : MapOk b g f) (low : LowS g S) : LowS b fun x => S (f x) := fun a x ha hx l s => low _ _ (mo.lt a ha) (mo.lt x hx) (mo.mono a x ha hx l) s
def S_carried_water : FS := fun cs K' => ∃ (b g : Hl) (f : Nat → Nat) (S : Nat → Bool), cs = [.im (encH b), .im (encH g), .im (encM b.n f), .im (encL (lotL g.n S))] ∧ b.ok ∧ g.ok ∧ MapOk b g f ∧ LowS g S ∧ K' (.im (encL (lotL b.n fun x => S (f x))))
theorem m_carried_water : Main (T_carried_water S_need_map S_need_water_maps S_lot_of S_carried_mask S_mask_of) N_carried_water S_carried_water := by
  rintro cs K' ⟨b, g, f, S, rfl, ok, ok2, mo, low, h⟩
  have t1 := ok.top; have t2 := ok2.top
  simp [T_carried_water]
  exact ⟨b, g, f, rfl, ok, ok2, mo, g, S, rfl, ok2, low, _, g.n, S, rfl, .inl rfl, by omega, b.n, g.n, f, S, rfl, by omega, mo.lt, b.n, _, rfl, by omega, h⟩
end L87
set_option maxHeartbeats 1000000
namespace L87
open PySem PySem.Spec PyProof.Rows L2 DL
theorem sortD_asc' {l : List Nat} (h : l.Pairwise (· < ·)) : sortD (nats l) = nats l := by
  obtain ⟨l', e, p, a⟩ := sortD_nat l (h.imp fun h => by omega)
  have : l' = l := asc_oneN a h fun k => p.mem_iff
  rw [this] at e
  exact e
def endsOf (b : Hl) (w : Bool) (S : Nat → Bool) : List Nat := lotL b.n (endB b.n (if w = true then (fun x y => b.le x y) else fun x y => b.le y x) (if w = true then (fun x y => b.le y x) else fun x y => b.le x y) S)
def S_carried_terraces : FS := fun cs K' => ∃ (b g : Hl) (f : Nat → Nat) (d : Deed), cs = [.im (encH b), .im (encH g), .im (encM b.n f), .im (encDeed d)] ∧ b.ok ∧ g.ok ∧ MapOk b g f ∧ d.2 < g.n ∧ K' (.ow ((nats (endsOf b d.1 fun a => rch g d (f a))).map .im))
theorem m_carried_terraces : Main (T_carried_terraces S_carried_mask S_reach_mask S_highest_of S_lowest_of) N_carried_terraces S_carried_terraces := by
  rintro cs K' ⟨b, g, f, d, rfl, ok, ok2, mo, hd, h⟩
  have t1 := ok.top
  obtain ⟨h1, h2, h3⟩ := alike_nats (endsOf b d.1 fun a => rch g d (f a))
  have srt := sortD_asc' (l := endsOf b d.1 fun a => rch g d (f a)) (asc_lotL _ _)
  simp [T_carried_terraces]
  refine ⟨g, d, rfl, ok2, hd, b.n, g.n, f, rch g d, rfl, by omega, mo.lt, ?_⟩
  obtain ⟨w, x⟩ := d
  cases w
  · simp [encDeed, wd]
    refine ⟨b, _, rfl, ok, ?_⟩
    refine ⟨nats (endsOf b false fun a => rch g (false, x) (f a)), lstF_ow _, h1, h2, h3, ?_⟩
    rw [srt]; simpa using h
  · simp [encDeed, wd]
    refine ⟨b, _, rfl, ok, ?_⟩
    refine ⟨nats (endsOf b true fun a => rch g (true, x) (f a)), lstF_ow _, h1, h2, h3, ?_⟩
    rw [srt]; simpa using h
def S_deeds_carried : FS := fun cs K' => ∃ (b g : Hl) (f : Nat → Nat) (d : Deed), cs = [.im (encH b), .im (encH g), .im (encM b.n f), .im (encDeed d)] ∧ b.ok ∧ g.ok ∧ MapOk b g f ∧ d.2 < g.n ∧ K' (.im (encS (due b g f d)))
theorem m_deeds_carried : Main (T_deeds_carried S_carried_terraces) N_deeds_carried S_deeds_carried := by
  rintro cs K' ⟨b, g, f, d, rfl, ok, ok2, mo, hd, h⟩
  simp [T_deeds_carried, -List.map_map]
  refine ⟨b, g, f, d, rfl, ok, ok2, mo, hd, nats (endsOf b d.1 fun a => rch g d (f a)), seqF_o, ?_⟩
  refine compGo_map encN (fun x => encDeed (d.1, x)) (endsOf b d.1 fun a => rch g d (f a)) (fun x hx K1 K0 hk => ?_) ⟨_, seqF_o, ?_⟩
  · simp [encDeed, encN, toDs, toD]
    simpa [encDeed] using hk
  · simpa [encS, due, endsOf, Function.comp_def] using h
def S_carried_deed : FS := S_deeds_carried
theorem m_carried_deed : Main (T_carried_deed S_need_map S_is_deed_value S_deeds_carried) N_carried_deed S_carried_deed := by
  rintro cs K' ⟨b, g, f, d, rfl, ok, ok2, mo, hd, h⟩
  simp [T_carried_deed, -Bool.exists_bool]
  refine ⟨b, g, f, rfl, ok, ok2, mo, ?_⟩
  simp [encH, -Bool.exists_bool]
  refine ⟨g.n, d, rfl, hd, true, rfl, ?_⟩
  simp
  exact ⟨b, g, f, d, rfl, ok, ok2, mo, hd, h⟩
theorem fold_dues (b g : Hl) (f : Nat → Nat) : ∀ (s acc : List Deed), s.foldl (fun acc d => acc ++ due b g f d) acc = acc ++ dues b g f s
  | [], acc => by simp [dues]
  | d :: s, acc => by
    rw [List.foldl_cons, fold_dues b g f s, List.append_assoc]
    rfl
theorem big_size {n : Nat} (h : n ≤ 100000) : n ≤ sizeLine := Nat.le_trans h (by decide)
def S_carried_script : FS := fun cs K' => ∃ (b g : Hl) (f : Nat → Nat) (s : List Deed), cs = [.im (encH b), .im (encH g), .im (encM b.n f), .im (encS s)] ∧ b.ok ∧ g.ok ∧ MapOk b g f ∧ InS g.n s ∧ s.length ≤ 1000 ∧ K' (.im (encS (dues b g f s)))
theorem m_carried_script : Main (T_carried_script S_need_map S_is_script_value S_deeds_carried) N_carried_script S_carried_script := by
  rintro cs K' ⟨b, g, f, s, rfl, ok, ok2, mo, hs, hl, h⟩
  have t1 := ok.top
  simp [T_carried_script, -Bool.exists_bool]
  refine ⟨b, g, f, rfl, ok, ok2, mo, ?_⟩
  simp [encH, -Bool.exists_bool]
  refine ⟨g.n, s, rfl, hs, true, rfl, ?_⟩
  simp [encS, toDs]
  refine forGo_pre encDeed (fun acc d => acc ++ due b g f d) (fun acc γ => ∃ c5, γ = [.im (encH b), .im (encH g), .im (encM b.n f), .im (encS s), .im (encS acc), c5]) [] s _ ⟨.un, rfl⟩ ?_ ?_
  · rintro pre d rest e γ ⟨c5, rfl⟩ nx hn
    have hd : d.2 < g.n := hs d (by rw [e]; simp)
    rw [fold_dues, List.nil_append] at hn ⊢
    have l1 := dues_len b g f pre
    have l2 := due_len b g f d
    have l3 : pre.length * b.n ≤ 1000 * 10 := Nat.mul_le_mul (by rw [e, List.length_append] at hl; omega) t1
    simp
    refine ⟨b, g, f, d, rfl, ok, ok2, mo, hd, ?_⟩
    simp [encS]
    refine ⟨big_size (by omega), ?_⟩
    have := hn _ ⟨.im (encDeed d), rfl⟩
    simpa [encS] using this
  · rintro γ ⟨c5, rfl⟩
    rw [fold_dues, List.nil_append]
    simp
    exact h
def S_is_water : FS := fun cs K' => ∃ (b : Hl) (S : Nat → Bool), cs = [.im (encH b), .im (encL (lotL b.n S))] ∧ b.ok ∧ LowS b S ∧ K' (.im (.bool true))
theorem m_is_water : Main (T_is_water S_need_hill S_is_lower_value) N_is_water S_is_water := by
  rintro cs K' ⟨b, S, rfl, ok, low, h⟩
  simp [T_is_water]
  exact ⟨b, rfl, ok, b, S, rfl, ok, low, h⟩
def S_need_water_scripts : FS := fun cs K' => ∃ (b : Hl) (S : Nat → Bool), cs = [.im (encH b), .im (encL (lotL b.n S))] ∧ b.ok ∧ LowS b S ∧ K' (.im .none)
theorem m_need_water_scripts : Main (T_need_water_scripts S_need_hill S_is_lower_value) N_need_water_scripts S_need_water_scripts := by
  rintro cs K' ⟨b, S, rfl, ok, low, h⟩
  simp [T_need_water_scripts, -Bool.exists_bool]
  exact ⟨b, rfl, ok, b, S, rfl, ok, low, true, rfl, by simpa using h⟩
def S_reach : FS := fun cs K' => ∃ (b : Hl) (d : Deed), cs = [.im (encH b), .im (encDeed d)] ∧ b.ok ∧ d.2 < b.n ∧ K' (.im (encL (lotL b.n (rch b d))))
theorem m_reach : Main (T_reach S_need_hill S_is_deed_value S_lot_of S_reach_mask) N_reach S_reach := by
  rintro cs K' ⟨b, d, rfl, ok, hd, h⟩
  have t1 := ok.top
  simp [T_reach, -Bool.exists_bool]
  refine ⟨b, rfl, ok, ?_⟩
  simp [encH, -Bool.exists_bool]
  refine ⟨b.n, d, rfl, hd, true, rfl, ?_⟩
  simp
  exact ⟨b, d, rfl, ok, hd, b.n, _, rfl, by omega, h⟩
def S_run : FS := fun cs K' => ∃ (b : Hl) (S : Nat → Bool) (s : List Deed), cs = [.im (encH b), .im (encL (lotL b.n S)), .im (encS s)] ∧ b.ok ∧ LowS b S ∧ InS b.n s ∧ K' (.im (encL (lotL b.n (behind b S s))))
theorem m_run : Main (T_run S_need_water_scripts S_need_script S_lot_of S_done S_mask_of) N_run S_run := by
  rintro cs K' ⟨b, S, s, rfl, ok, low, hs, h⟩
  have t1 := ok.top
  simp [T_run]
  refine ⟨b, S, rfl, ok, low, ?_⟩
  simp [encH]
  exact ⟨b.n, s, rfl, hs, _, b.n, S, rfl, .inl rfl, by omega, b, S, s, rfl, ok, hs, b.n, _, rfl, by omega, h⟩
def encC (b : Hl) (s : List Deed) : D := .tuple [encL (lotL b.n (wetS b s)), encL (lotL b.n (dryS b s))]
def S_raw_couple : FS := fun cs K' => ∃ (b : Hl) (s : List Deed), cs = [.im (encH b), .im (encS s)] ∧ b.ok ∧ InS b.n s ∧ K' (.im (encC b s))
theorem m_raw_couple : Main (T_raw_couple S_couple_masks S_lot_of) N_raw_couple S_raw_couple := by
  rintro cs K' ⟨b, s, rfl, ok, hs, h⟩
  have t1 := ok.top
  simp [T_raw_couple]
  refine ⟨b, s, rfl, ok, hs, ?_⟩
  simp
  refine ⟨b.n, _, rfl, by omega, b.n, _, rfl, by omega, ?_⟩
  simp [toDs, toD]
  exact h
def S_couple_of : FS := fun cs K' => ∃ (b : Hl) (s : List Deed), cs = [.im (encH b), .im (encS s)] ∧ b.ok ∧ InS b.n s ∧ K' (.im (encC b s))
theorem m_couple_of : Main (T_couple_of S_need_hill S_need_script S_raw_couple) N_couple_of S_couple_of := by
  rintro cs K' ⟨b, s, rfl, ok, hs, h⟩
  simp [T_couple_of]
  refine ⟨b, rfl, ok, ?_⟩
  simp [encH]
  exact ⟨b.n, s, rfl, hs, b, s, rfl, ok, hs, h⟩
end L87
set_option maxHeartbeats 1000000
namespace L87
open PySem PySem.Spec PyProof.Rows L2 DL
theorem log_ok {k : Nat} (h : k ≤ 2 ^ 60) : (k : Int).natAbs.log2 < 9000 := by
  rw [Int.natAbs_natCast]
  by_cases e : k = 0
  · subst e; decide
  · exact Nat.lt_of_lt_of_le ((Nat.log2_lt e).mpr (Nat.lt_of_le_of_lt h (by decide : 2 ^ 60 < 2 ^ 61))) (by decide)
theorem draw_nat {k : Nat} {K' : Cell → Prop} (h0 : 0 < k) (h : k ≤ 2 ^ 60) (hk : ∀ r : Nat, r < k → K' (.im (.int (r : Nat)))) : S_draw [.deck, .im (.int (k : Nat))] K' :=
  ⟨k, rfl, by omega, log_ok h, fun r r0 r1 => by obtain ⟨r, rfl⟩ := Int.eq_ofNat_of_zero_le r0; exact hk r (by omega)⟩
def S_pick : FS := fun cs K' => ∃ ds : List D, (cs = [.deck, .ow (ds.map .im)] ∨ cs = [.deck, .im (.list ds)]) ∧ 0 < ds.length ∧ ds.length ≤ 2 ^ 60 ∧ ∀ d ∈ ds, K' (.im d)
theorem m_pick : Main (T__law_pick S_draw) N__law_pick S_pick := by
  rintro cs K' ⟨ds, rfl | rfl, h1, h2, h⟩
  · simp [T__law_pick]
    refine draw_nat h1 h2 fun r hr => ?_
    simp [atI_nat hr, atI_nat (xs := ds.map Cell.im) (by simpa using hr)]
    exact h _ (List.getElem_mem _)
  · simp [T__law_pick]
    refine draw_nat h1 h2 fun r hr => ?_
    simp [atI_nat hr, atI_nat (xs := ds.map Cell.im) (by simpa using hr)]
    exact h _ (List.getElem_mem _)
def S_deck : FS := fun cs K' => ∃ ns : List Int, cs = [.im (.list (ns.map .int))] ∧ ns.length ≤ 63 ∧ ∀ (ms : List Int) (m : Int), ms.length ≤ 63 → K' (.dk [.inr dkn.1, .inr dkn.2.1, .inr dkn.2.2] [.ow ((ms.map PyData.int).map .im), .im (.int m), .im (.int 0)])
theorem m_deck : Main T__law_deck N__law_deck S_deck := by
  rintro cs K' ⟨ns, rfl, h1, h⟩
  have ht : cut (ns.map PyData.int) none (some 63) = ns.map PyData.int := by
    rw [show (63 : Int) = ((63 : Nat) : Int) from rfl, cut_to, List.take_of_length_le (by simpa using h1)]
  simp [T__law_deck, -List.map_map]
  rw [ht]
  refine forGo_enc PyData.int (I := fun _ γ => ∃ (m : Int) (c3 : Cell), γ = [.im (.list (ns.map .int)), .im (.int m), c3]) ?_ ?_ ns _ ⟨_, _, rfl⟩
  · rintro γ ⟨m, c3, rfl⟩
    simp [-List.map_map]
    rw [ht]
    have := h ns.reverse m (by simpa using h1)
    simpa using this
  · rintro i rest γ ⟨m, c3, rfl⟩ nx hn
    simp [-List.map_map]
    exact ⟨cmulR ⟨by decide, by decide⟩, hn _ ⟨_, _, rfl⟩⟩
theorem erase_map {α β : Type} (f : α → β) : ∀ (l : List α) (r : Nat), (l.map f).eraseIdx r = (l.eraseIdx r).map f
  | [], _ => rfl
  | _ :: _, 0 => rfl
  | x :: l, r + 1 => by simp [erase_map f l r]
/-- an order of n places: only that it is a list of n numbers below n -/
def S_shuffled : FS := fun cs K' => ∃ n : Nat, cs = [.deck, .im (.int (n : Nat))] ∧ 1 ≤ n ∧ n ≤ 10 ∧ ∀ l : List Nat, l.length = n → (∀ x ∈ l, x < n) → K' (.ow ((nats l).map .im))
theorem m_shuffled : Main (T__law_shuffled S_draw) N__law_shuffled S_shuffled := by
  rintro cs K' ⟨n, rfl, h0, h1, h⟩
  have e0 : rgI 0 (n : Int) = nats (List.range n) := by
    unfold rgI nats
    rw [show ((n : Int) - 0).toNat = n by omega]
    exact List.map_congr_left fun i _ => by rw [Int.zero_add]
  simp [T__law_shuffled, -List.map_map]
  refine ⟨by omega, ?_⟩
  rw [e0]
  refine forGo_inv encN (fun γ => ∃ (l : List Nat) (c3 : Cell), l.length = n ∧ (∀ x ∈ l, x < n) ∧ γ = [.deck, .im (.int (n : Nat)), .ow ((nats l).map .im), c3]) (List.range n) _ ⟨List.range n, .un, by simp, fun x m => by simpa using m, rfl⟩ ?_ ?_
  · rintro i hi γ ⟨l, c3, hl, hm, rfl⟩ nx hn
    simp [-List.map_map]
    refine ⟨nats l, rfl, draw_nat (by omega) (by omega) fun r hr => ?_⟩
    have hr' : r < l.length := by omega
    refine ⟨(r : Nat), rfl, r, ixN_nat (by simpa using hr'), PyData.int (l.getD r 0 : Nat), by rw [nats, List.getElem?_map, List.getD_eq_getElem?_getD, List.getElem?_eq_getElem hr']; rfl, ?_⟩
    have e : List.map Cell.im ((nats l).eraseIdx r) ++ [Cell.im (PyData.int (l.getD r 0 : Nat))] = (nats (l.eraseIdx r ++ [l.getD r 0])).map .im := by
      simp [nats, erase_map, -List.map_map]
    rw [e]
    refine hn _ ⟨l.eraseIdx r ++ [l.getD r 0], _, ?_, fun x m => ?_, rfl⟩
    · rw [List.length_append, List.length_eraseIdx, if_pos hr']; simp; omega
    · rcases List.mem_append.mp m with m | m
      · exact hm x (List.mem_of_mem_eraseIdx m)
      · rw [List.mem_singleton.mp m, List.getD_eq_getElem?_getD, List.getElem?_eq_getElem hr']
        exact hm _ (List.getElem_mem _)
  · rintro γ ⟨l, c3, hl, hm, rfl⟩
    simp [-List.map_map]
    exact h l hl hm
def updR (m : Nat) (f : Nat → Nat → Bool) (a : Nat) : Nat → Nat → Bool := if f a m = true then (fun x => if x = a then fun b => f a b || f m b else f x) else f
theorem fold_updR (m : Nat) : ∀ (l : List Nat) (f : Nat → Nat → Bool), l.Nodup → ∀ x b, (l.foldl (updR m) f) x b = if x ∈ l then f x b || (f x m && f m b) else f x b
  | [], f, _, x, b => by simp
  | a :: l, f, nd, x, b => by
    obtain ⟨n1, n2⟩ := List.nodup_cons.mp nd
    have e1 : ∀ b, updR m f a m b = f m b := fun b => by
      unfold updR
      by_cases c : f a m = true
      · rw [if_pos c]
        by_cases e : m = a
        · subst e; simp
        · simp [e]
      · rw [if_neg c]
    have e2 : ∀ b, x ≠ a → updR m f a x b = f x b := fun b ne => by
      unfold updR
      by_cases c : f a m = true
      · simp [c, ne]
      · simp [c]
    rw [List.foldl_cons, fold_updR m l _ n2 x b, e1]
    by_cases hx : x = a
    · subst hx
      rw [if_neg n1, if_pos List.mem_cons_self]
      unfold updR
      cases c : f x m <;> simp
    · rw [e2 b hx, e2 m hx]
      simp [hx]
def warR (n : Nat) (f : Nat → Nat → Bool) (k : Nat) : Nat → Nat → Bool := (List.range k).foldl (fun f m => (List.range n).foldl (updR m) f) f
theorem warR_succ (n : Nat) (f : Nat → Nat → Bool) (k x b : Nat) (hx : x < n) : warR n f (k + 1) x b = (warR n f k x b || (warR n f k x k && warR n f k k b)) := by
  unfold warR
  rw [List.range_succ, List.foldl_append, List.foldl_cons, List.foldl_nil, fold_updR k _ _ List.nodup_range, if_pos (by simpa using hx)]
/-- sound and full -/
def Tr (ps : List (Nat × Nat)) (a x : Nat) : Prop := ∀ R : Nat → Nat → Prop, (∀ a, R a a) → (∀ a b c, R a b → R b c → R a c) → (∀ p ∈ ps, R p.1 p.2) → R a x
structure War (n : Nat) (ps : List (Nat × Nat)) (f : Nat → Nat → Bool) (k : Nat) : Prop where
  refl : ∀ a, a < n → f a a = true
  has : ∀ p ∈ ps, f p.1 p.2 = true
  sound : ∀ a b, a < n → f a b = true → Tr ps a b
  via : ∀ c, c < k → ∀ a b, a < n → b < n → f a c = true → f c b = true → f a b = true
theorem war_step {n k : Nat} {ps : List (Nat × Nat)} {f g : Nat → Nat → Bool} (hk : k < n) (hp : ∀ p ∈ ps, p.1 < n) (w : War n ps f k) (hg : ∀ x b, x < n → g x b = (f x b || (f x k && f k b))) : War n ps g (k + 1) := by
  refine ⟨fun a ha => by rw [hg a a ha, w.refl a ha]; rfl, fun p m => by rw [hg _ _ (hp p m), w.has p m]; rfl, fun a b ha h => ?_, fun c hc a b ha hb h1 h2 => ?_⟩
  · rw [hg a b ha, Bool.or_eq_true, Bool.and_eq_true] at h
    rcases h with h | ⟨h1, h2⟩
    · exact w.sound a b ha h
    · exact fun R r t p => t _ _ _ (w.sound a k ha h1 R r t p) (w.sound k b hk h2 R r t p)
  · have hcn : c < n := by omega
    rw [hg a c ha, Bool.or_eq_true, Bool.and_eq_true] at h1
    rw [hg c b hcn, Bool.or_eq_true, Bool.and_eq_true] at h2
    rw [hg a b ha, Bool.or_eq_true, Bool.and_eq_true]
    by_cases e : c = k
    · subst e
      have a1 : f a c = true := by rcases h1 with h | ⟨h, _⟩ <;> exact h
      have a2 : f c b = true := by rcases h2 with h | ⟨_, h⟩ <;> exact h
      exact .inr ⟨a1, a2⟩
    · have hck : c < k := by omega
      rcases h1 with h1 | ⟨h1, h1'⟩ <;> rcases h2 with h2 | ⟨h2, h2'⟩
      · exact .inl (w.via c hck a b ha hb h1 h2)
      · exact .inr ⟨w.via c hck a k ha hk h1 h2, h2'⟩
      · exact .inr ⟨h1, w.via c hck k b hk hb h1' h2⟩
      · exact .inr ⟨h1, h2'⟩
theorem war_all {n : Nat} {ps : List (Nat × Nat)} {f : Nat → Nat → Bool} (hp : ∀ p ∈ ps, p.1 < n) (w : War n ps f 0) : ∀ k, k ≤ n → War n ps (warR n f k) k
  | 0, _ => w
  | k + 1, h => war_step (by omega) hp (war_all hp w k (by omega)) fun x b hx => warR_succ n f k x b hx
def c_0 : XS := (sSet 2 (xLC (xRange1 (xCons (xVarR 0) xNil)) (gNm 7) uYes (xLC (xRange1 (xCons (xVarR 0) xNil)) (gNm 8) uYes (x2 cEq (xVarR 7) (xVarR 8)) [8]) [7]))
def c_1 : XS := (sFz [1] (sFor (xSeq (xVar 1)) (gTp 2 (gC (gNm 3) (gC (gNm 4) gN0))) (sSetIx2 2 (xVarR 3) (xVarR 4) (xC (.bool true)))))
def c_2 : XS := (sFor (xRange1 (xCons (xVarR 0) xNil)) (gNm 5) (sFor (xRange1 (xCons (xVarR 0) xNil)) (gNm 3) (sIf (tTru (xIx (xIx (xVarR 2) (xVarR 3)) (xVarR 5))) (sSetIx 2 (xVarR 3) (xLC (xZip (xCons (xIx (xVarR 2) (xVarR 3)) (xCons (xIx (xVarR 2) (xVarR 5)) xNil))) (gTp 2 (gC (gNm 9) (gC (gNm 10) gN0))) uYes (xOr (xVar 9) (xVar 10)) [9, 10])) sNext)))
def c_3 : XS := (sSet 6 (xLst xNil))
def c_4 : XS := (sFor (xRange1 (xCons (xVarR 0) xNil)) (gNm 3) (sExt 6 (xLC (xRange1 (xCons (xVarR 0) xNil)) (gNm 8) (tAndX (tTru (xIx (xIx (xVarR 2) (xVarR 3)) (xVarR 8))) (tBl (x2 cNe (xVarR 8) (xVarR 3)))) (xTup (xCons (xVar 3) (xCons (xVar 8) xNil))) [8])))
def c_5 : XS := (sRet (xTup (xCons (xVar 0) (xCons (xCB cTup (xCons (xVarR 6) xNil)) xNil))))
theorem c__eq : T__law_closed = (sSeq (c_0) (sSeq (c_1) (sSeq (c_2) (sSeq (c_3) (sSeq (c_4) c_5))))) := rfl
theorem compGo_mapC {α : Type} (enc : α → D) (g : α → Cell) {G : XG} {U : XT} {T : XE} {γ : List Cell} {K : Cell → Prop} (xs : List α) (h : ∀ x ∈ xs, ∀ (K1 : Cell → Prop) (K0 : Prop), K1 (g x) → G (enc x) γ fun γ2 => U γ2 fun b => if b = true then T γ2 K1 else K0)
    (hk : K (.ow (xs.map g))) : compGo G U T γ K (xs.map enc) [] := by
  have key : ∀ (xs : List α) (acc : List Cell), (∀ x ∈ xs, ∀ (K1 : Cell → Prop) (K0 : Prop), K1 (g x) → G (enc x) γ fun γ2 => U γ2 fun b => if b = true then T γ2 K1 else K0) → K (.ow (acc ++ xs.map g)) → compGo G U T γ K (xs.map enc) acc := by
    intro xs
    induction xs with
    | nil => intro acc _ hk; simpa [compGo] using hk
    | cons x xs ih =>
      intro acc h hk
      refine h x List.mem_cons_self _ _ ?_
      exact ih _ (fun y m => h y (List.mem_cons_of_mem _ m)) (by simpa using hk)
  exact key xs [] h (by simpa using hk)
def rowB (n : Nat) (f : Nat → Bool) : List D := (List.range n).map fun c => PyData.bool (f c)
def rowC (n : Nat) (f : Nat → Bool) : Cell := .ow ((rowB n f).map .im)
def nearC (n : Nat) (f : Nat → Nat → Bool) : Cell := .ow ((List.range n).map fun a => rowC n (f a))
@[simp] theorem near_ne {n : Nat} {f : Nat → Nat → Bool} : (nearC n f = .un) = False := by simp [nearC]
@[simp] theorem row_ne {n : Nat} {f : Nat → Bool} : (rowC n f = .un) = False := by simp [rowC]
theorem near_at {n : Nat} {f : Nat → Nat → Bool} {a : Nat} (h : a < n) : ixC (nearC n f) (.im (.int (a : Nat))) = some (rowC n (f a)) := by
  unfold nearC
  simp
  rw [DL.atI_nat (by simpa using h)]
  simp
theorem row_at {n : Nat} {f : Nat → Bool} {a : Nat} (h : a < n) : ixC (rowC n f) (.im (.int (a : Nat))) = some (.im (.bool (f a))) := by
  unfold rowC rowB
  simp
  rw [DL.atI_nat (by simpa using h)]
  simp
theorem row_seq {n : Nat} {f : Nat → Bool} : seqF (rowC n f) = some (rowB n f) := seqF_o
theorem near_set {n : Nat} {f : Nat → Nat → Bool} {a : Nat} {g : Nat → Bool} : ((List.range n).map fun a => rowC n (f a)).set a (rowC n g) = (List.range n).map fun x => rowC n ((if x = a then g else f x)) := by
  apply List.ext_getElem
  · simp
  · intro i h1 h2
    simp [List.getElem_set]
    by_cases e : a = i
    · subst e; simp
    · have : ¬ i = a := fun z => e z.symm
      simp [e, this]
theorem rowB_set {n j : Nat} {f : Nat → Bool} : (rowB n f).set j (.bool true) = rowB n fun x => decide (x = j) || f x := by
  apply List.ext_getElem
  · simp [rowB]
  · intro i h1 h2
    simp [rowB, List.getElem_set]
    by_cases e : j = i
    · subst e; simp
    · have : ¬ i = j := fun z => e z.symm
      simp [e, this]
section
variable {n : Nat} {E : XEnds} {c1 c2 c3 c4 c5 c6 c7 c8 c9 c10 : Cell}
theorem c0_ok (hn : n ≤ 10) (h : E.nx [.im (.int n), c1, nearC n (fun a b => decide (a = b)), c3, c4, c5, c6, c7, c8, c9, c10]) : c_0 E [.im (.int n), c1, c2, c3, c4, c5, c6, c7, c8, c9, c10] := by
  simp [c_0]
  refine ⟨by omega, compGo_mapC encN (fun a => rowC n fun b => decide (a = b)) (List.range n) (fun a ha K1 K0 hk => ?_) h⟩
  simp [encN]
  refine ⟨by omega, compGo_map encN (fun b => .bool (decide (a = b))) (List.range n) (fun b hb K1 K0 hk => ?_) hk⟩
  simp [encN]
  by_cases e : a = b
  · subst e; simpa using hk
  · have : ((a : Int) == b) = false := by simp; omega
    rw [this]; simpa [e] using hk
theorem c1_ok (hn : n ≤ 10) {ps : List (Nat × Nat)} (hp : ∀ p ∈ ps, p.1 < n ∧ p.2 < n) (hc : c1 = .ow ((ps.map encP).map .im) ∨ c1 = .im (.list (ps.map encP))) (h : ∀ f c3 c4, War n ps f 0 → E.nx [.im (.int n), .im (.list (ps.map encP)), nearC n f, c3, c4, c5, c6, c7, c8, c9, c10]) :
    c_1 E [.im (.int n), c1, nearC n (fun a b => decide (a = b)), c3, c4, c5, c6, c7, c8, c9, c10] := by
  have ef : frz c1 = .im (.list (ps.map encP)) := by
    rcases hc with rfl | rfl
    · exact frz_ow _
    · rfl
  have key : ∀ (f : Nat → Nat → Bool) c3 c4, War n [] f 0 → forGo (gTp 2 (gC (gNm 3) (gC (gNm 4) gN0))) (sSetIx2 2 (xVarR 3) (xVarR 4) (xC (.bool true))) E (ps.map encP) [.im (.int n), .im (.list (ps.map encP)), nearC n f, c3, c4, c5, c6, c7, c8, c9, c10] := by
    intro f c3 c4 w0
    refine forGo_pre encP (fun done p => done ++ [p]) (fun done γ => ∃ f c3 c4, War n done f 0 ∧ γ = [.im (.int n), .im (.list (ps.map encP)), nearC n f, c3, c4, c5, c6, c7, c8, c9, c10]) [] ps _ ⟨f, c3, c4, w0, rfl⟩ ?_ ?_
    · rintro pre p rest e γ ⟨f, c3, c4, w, rfl⟩ nx hn
      have hm := hp p (by rw [e]; simp)
      simp [encP]
      refine ⟨_, rfl, p.1, ixN_nat (by simpa using hm.1), rowB n (f p.1), by simp [hm.1, rowC], p.2, ixN_nat (by simpa [rowB] using hm.2), ?_⟩
      rw [← List.map_set, rowB_set]
      have e3 := near_set (n := n) (f := f) (a := p.1) (g := fun y => decide (y = p.2) || f p.1 y)
      unfold rowC at e3
      unfold rowC
      rw [e3]
      refine hn _ ⟨fun x => if x = p.1 then fun y => decide (y = p.2) || f p.1 y else f x, _, _, ?_, rfl⟩
      generalize pre.foldl (fun done p => done ++ [p]) [] = done at w ⊢
      refine ⟨fun a ha => ?_, fun q mq => ?_, fun a b ha hab => ?_, fun c hc => by omega⟩
      · split
        · rename_i e; subst e; simp [w.refl _ ha]
        · exact w.refl a ha
      · rcases List.mem_append.mp mq with mq | mq
        · have := w.has q mq
          split
          · rename_i e; rw [e] at this; simp [this]
          · exact this
        · rw [List.mem_singleton.mp mq, if_pos rfl]; simp
      · have up : ∀ {a b}, Tr done a b → Tr (done ++ [p]) a b := fun t R r tr hR => t R r tr fun q m => hR q (List.mem_append_left _ m)
        split at hab
        · rename_i e
          subst e
          rw [Bool.or_eq_true, decide_eq_true_eq] at hab
          rcases hab with rfl | hab
          · exact fun R r tr hR => hR p (by simp)
          · exact up (w.sound _ _ ha hab)
        · exact up (w.sound _ _ ha hab)
    · rintro γ ⟨f, c3, c4, w, rfl⟩
      have e : ∀ (l acc : List (Nat × Nat)), l.foldl (fun done p => done ++ [p]) acc = acc ++ l := by
        intro l
        induction l with
        | nil => intro acc; simp
        | cons x l ih => intro acc; rw [List.foldl_cons, ih]; simp
      rw [e, List.nil_append] at w
      exact h f c3 c4 w
  have w0 : War n [] (fun a b => decide (a = b)) 0 := by
    refine ⟨fun a _ => decide_eq_true rfl, fun p m => (nomatch m), fun a b _ h => ?_, fun c hc => by omega⟩
    have e : a = b := of_decide_eq_true h
    rw [e]
    exact fun R r _ _ => r b
  have := key _ c3 c4 w0
  rcases hc with rfl | rfl
  · simp [c_1, -List.map_map]
    exact this
  · simp [c_1, -List.map_map]
    exact this
theorem c2_ok (hn : n ≤ 10) {f : Nat → Nat → Bool} (h : ∀ c3 c5, E.nx [.im (.int n), c1, nearC n (warR n f n), c3, c4, c5, c6, c7, c8, c9, c10]) :
    c_2 E [.im (.int n), c1, nearC n f, c3, c4, c5, c6, c7, c8, c9, c10] := by
  simp [c_2]
  refine ⟨by omega, forGo_fold encN (fun f m => (List.range n).foldl (updR m) f) (fun f γ => ∃ c3 c5, γ = [.im (.int n), c1, nearC n f, c3, c4, c5, c6, c7, c8, c9, c10]) f (List.range n) _ ⟨_, _, rfl⟩ ?_ ?_⟩
  · rintro m hm f γ ⟨c3, c5, rfl⟩ nx hnx
    have hm' : m < n := by simpa using hm
    simp [encN]
    refine ⟨by omega, forGo_fold encN (updR m) (fun f γ => ∃ c3, γ = [.im (.int n), c1, nearC n f, c3, c4, .im (.int m), c6, c7, c8, c9, c10]) f (List.range n) _ ⟨_, rfl⟩ ?_ ?_⟩
    · rintro a ha f γ ⟨c3, rfl⟩ nx hnx
      have ha' : a < n := by simpa using ha
      have ez : zipD (rowB n (f a)) (rowB n (f m)) = (List.range n).map fun c => .tuple [.bool (f a c), .bool (f m c)] := by
        unfold rowB
        rw [zipD_map, show (List.range n).zip (List.range n) = (List.range n).map fun x => (x, x) from by have := zip_self (fun x : Nat => x) (List.range n); simpa using this, List.map_map]; rfl
      simp [encN, near_at ha', near_at hm', row_at hm', row_seq, ez, -List.map_map]
      cases e : f a m
      · have eu : updR m f a = f := by unfold updR; rw [e]; rfl
        rw [eu] at hnx
        exact .inl ⟨rfl, hnx _ ⟨_, rfl⟩⟩
      · refine .inr ⟨rfl, ?_⟩
        refine compGo_map _ (fun c => .bool (f a c || f m c)) (List.range n) (fun c hc K1 K0 hk => ?_) ⟨_, rfl, a, ixN_nat (by simpa using ha'), ?_⟩
        · simp
          cases e1 : f a c <;> simpa [e1] using hk
        · have := near_set (n := n) (f := f) (a := a) (g := fun c => f a c || f m c)
          unfold rowC rowB at this
          unfold rowC rowB
          rw [this]
          have eu : updR m f a = fun x => if x = a then fun b => f a b || f m b else f x := by unfold updR; rw [e]; rfl
          rw [eu] at hnx
          exact hnx _ ⟨_, rfl⟩
    · rintro γ ⟨c3, rfl⟩
      exact hnx _ ⟨_, _, rfl⟩
  · rintro γ ⟨c3, c5, rfl⟩
    exact h _ _
theorem c4_ok (hn : n ≤ 10) {f : Nat → Nat → Bool} (h : ∀ c3, E.nx [.im (.int n), c1, nearC n f, c3, c4, c5, .ow (((prs ⟨n, f⟩).map encP).map .im), c7, c8, c9, c10]) :
    c_4 E [.im (.int n), c1, nearC n f, c3, c4, c5, .ow [], c7, c8, c9, c10] := by
  have flat : ∀ (l : List Nat) (acc : List (Nat × Nat)), l.foldl (fun acc a => acc ++ (((List.range n).filter fun b => decide (a ≠ b) && f a b).map fun b => (a, b))) acc = acc ++ l.flatMap fun a => ((List.range n).filter fun b => decide (a ≠ b) && f a b).map fun b => (a, b) := by
    intro l
    induction l with
    | nil => intro acc; simp
    | cons a l ih => intro acc; rw [List.foldl_cons, ih, List.flatMap_cons, List.append_assoc]
  simp [c_4]
  refine ⟨by omega, forGo_pre encN (fun acc a => acc ++ (((List.range n).filter fun b => decide (a ≠ b) && f a b).map fun b => (a, b))) (fun (acc : List (Nat × Nat)) γ => ∃ c3, γ = [.im (.int n), c1, nearC n f, c3, c4, c5, .ow ((acc.map encP).map .im), c7, c8, c9, c10]) [] (List.range n) _ ⟨_, rfl⟩ ?_ ?_⟩
  · rintro pre a rest e γ ⟨c3, rfl⟩ nx hnx
    have hlen : ∀ a, (((List.range n).filter fun b => decide (a ≠ b) && f a b).map fun b => (a, b)).length ≤ n := fun a => by
      have := List.length_filter_le (fun b => decide (a ≠ b) && f a b) (List.range n)
      simpa using this
    have hpl : pre.length < n := by
      have := congrArg List.length e
      simp at this
      omega
    have hacc : ∀ l : List Nat, (l.flatMap fun a => ((List.range n).filter fun b => decide (a ≠ b) && f a b).map fun b => (a, b)).length ≤ l.length * n := by
      intro l
      induction l with
      | nil => simp
      | cons a l ih =>
        have := hlen a
        rw [List.flatMap_cons, List.length_append, List.length_cons, Nat.succ_mul]
        omega
    have ha' : a < n := by
      have : a ∈ List.range n := by rw [e]; simp
      simpa using this
    rw [flat, List.nil_append] at hnx ⊢
    have h1 := hacc pre
    generalize (pre.flatMap fun a => ((List.range n).filter fun b => decide (a ≠ b) && f a b).map fun b => (a, b)) = acc at h1 hnx ⊢
    simp [encN, -List.map_map]
    refine ⟨by omega, compGo_fm encN (fun b => decide (a ≠ b) && f a b) (fun b => encP (a, b)) (List.range n) (fun b hb K1 K0 k1 k0 => ?_) ⟨_, rfl, ?_, ?_⟩⟩
    · have hb' : b < n := by simpa using hb
      simp [encN, near_at ha', row_at hb', toDs, toD]
      cases e1 : f a b
      · exact .inl ⟨rfl, k0 (by simp [e1])⟩
      · refine .inr ⟨rfl, ?_⟩
        by_cases e2 : a = b
        · subst e2
          exact .inl ⟨rfl, k0 (by simp)⟩
        · refine .inr ⟨by omega, ?_⟩
          have := k1 (by simp [e1, e2])
          simpa [encP] using this
    · have h2 := hlen a
      have h3 : pre.length * n ≤ 10 * 10 := Nat.mul_le_mul (by omega) hn
      simp only [List.length_map] at h2 ⊢
      exact le_size (by omega)
    · have := hnx _ ⟨.im (.int (a : Nat)), rfl⟩
      simpa [encN, Function.comp_def] using this
  · rintro γ ⟨c3, rfl⟩
    rw [flat, List.nil_append]
    exact h c3
end
def S_lclosed : FS := fun cs K' => ∃ (n : Nat) (ps : List (Nat × Nat)) (c : Cell), cs = [.im (.int (n : Nat)), c] ∧ (c = .ow ((ps.map encP).map .im) ∨ c = .im (.list (ps.map encP))) ∧ 1 ≤ n ∧ n ≤ 10 ∧ (∀ p ∈ ps, p.1 < n ∧ p.2 < n) ∧
  ∀ h : Hl, h.ok → h.n = n → (∀ p ∈ ps, h.le p.1 p.2 = true) → (∀ a b, a < n → h.le a b = true → Tr ps a b) → K' (.im (encH h))
theorem m_lclosed : Main T__law_closed N__law_closed S_lclosed := by
  rintro cs K' ⟨n, ps, c, rfl, hc, h0, h1, hp, h⟩
  rw [c__eq]
  show sSeq c_0 _ _ [_, c, .un, .un, .un, .un, .un, .un, .un, .un, .un]
  rw [sSeq]
  refine c0_ok h1 ?_
  simp only []
  rw [sSeq]
  refine c1_ok h1 hp hc fun f c3 c4 w => ?_
  simp only []
  rw [sSeq]
  refine c2_ok h1 fun c3 c5 => ?_
  simp only []
  rw [sSeq]
  simp only [c_3]
  simp
  refine c4_ok h1 fun c3 => ?_
  have w2 := war_all (fun p m => (hp p m).1) w n (Nat.le_refl _)
  simp [c_5, toDs, toD, -List.map_map]
  exact h ⟨n, warR n f n⟩ ⟨h0, h1, w2.refl, fun a b c ha hb hc h1 h2 => w2.via b hb a c ha hc h1 h2⟩ rfl w2.has w2.sound
end L87
set_option maxHeartbeats 1000000
namespace L87
open PySem PySem.Spec PyProof.Rows L2 DL
theorem fold_snoc {α : Type} : ∀ (l acc : List α), l.foldl (fun p a => p ++ [a]) acc = acc ++ l
  | [], acc => by simp
  | x :: l, acc => by rw [List.foldl_cons, fold_snoc l]; simp
def h_0 (S__law_draw : FS) : XS := (sPar [2, 3, 4] (xCons (x2 cAdd (xC (.int 1)) (xCall S__law_draw (xCons (xVar 0) (xCons (xVar 1) xNil)))) (xCons (xCall S__law_draw (xCons (xVar 0) (xCons (xC (.int 9)) xNil))) (xCons (xLst xNil) xNil))))
def h_1 (S__law_draw : FS) : XS := (sFor (xRange2 (xCons (xC (.int 1)) (xCons (xVarR 2) xNil))) (gNm 5) (sSeq (sIf (tBl (x2 cEq (xVarR 3) (xC (.int 1)))) (sApp 4 (xTup (xCons (x2 (cI0 fun i j => i - j) (xVarR 5) (xC (.int 1))) (xCons (xVar 5) xNil)))) sNext) (sSeq (sIf (tOrX (tBl (x2 cEq (xVarR 3) (xC (.int 2)))) (tBl (x2 cEq (xVarR 3) (xC (.int 3))))) (sSeq (sSet 6 (xTup (xCons (xVar 5) (xCons (xCall S__law_draw (xCons (xVar 0) (xCons (xVar 5) xNil))) xNil)))) (sApp 4 (xIf (tBl (x2 cEq (xVarR 3) (xC (.int 2)))) (xVar 6) (xRev (xVarR 6))))) sNext) (sSeq (sIf (tOrX (tBl (x2 cEq (xVarR 3) (xC (.int 4)))) (tOrX (tBl (x2 cEq (xVarR 3) (xC (.int 5)))) (tBl (x2 cEq (xVarR 3) (xC (.int 8)))))) (sExt 4 (xLC (xRange1 (xCons (xVarR 5) xNil)) (gNm 8) (tBl (x2 cEq (xCall S__law_draw (xCons (xVar 0) (xCons (xIf (tBl (x2 cEq (xVarR 3) (xC (.int 8)))) (xC (.int 4)) (xC (.int 2))) xNil))) (xC (.int 0)))) (xTup (xCons (xVar 8) (xCons (xVar 5) xNil))) [8])) sNext) (sSeq (sIf (tAndX (tBl (x2 cEq (xVarR 3) (xC (.int 6)))) (tBl (x2 (cB0 fun i j => decide (j ≤ i)) (xVarR 5) (x2 (cI CDivW fun i j => i / j) (xVarR 2) (xC (.int 2)))))) (sExt 4 (xLC (xRange1 (xCons (x2 (cI CDivW fun i j => i / j) (xVarR 2) (xC (.int 2))) xNil)) (gNm 8) (tBl (x2 cEq (xCall S__law_draw (xCons (xVar 0) (xCons (xC (.int 2)) xNil))) (xC (.int 0)))) (xTup (xCons (xVar 8) (xCons (xVar 5) xNil))) [8])) sNext) (sIf (tBl (x2 cEq (xVarR 3) (xC (.int 7)))) (sExt 4 (xLC (xSeq (xLst (xCons (xC (.int 1)) (xCons (xC (.int 2)) xNil)))) (gNm 9) (tAndX (tBl (x2 (cB0 fun i j => decide (j ≤ i)) (xVarR 5) (xVarR 9))) (tOrX (tBl (x2 cEq (xVarR 9) (xC (.int 2)))) (tBl (x2 cEq (x2 (cI (fun _ j => 0 < j) fun i j => i % j) (xCB cInt (xCons (xVarR 5) xNil)) (xC (.int 2))) (xC (.int 1)))))) (xTup (xCons (x2 (cI0 fun i j => i - j) (xVarR 5) (xVarR 9)) (xCons (xVar 5) xNil))) [9])) sNext))))))
def h_2 (S__law_draw : FS) : XS := (sIf (tBl (x2 cEq (xVarR 3) (xC (.int 5)))) (sExt 4 (xLC (xRange1 (xCons (x2 cAdd (xC (.int 1)) (x2 (cI CDivW fun i j => i / j) (xVarR 2) (xC (.int 4)))) xNil)) (gNm 10) uYes (xTup (xCons (xCall S__law_draw (xCons (xVar 0) (xCons (xVar 2) xNil))) (xCons (xCall S__law_draw (xCons (xVar 0) (xCons (xVar 2) xNil))) xNil))) [10])) sNext)
def h_3 (S__law_shuffled : FS) : XS := (sSet 7 (xCall S__law_shuffled (xCons (xVar 0) (xCons (xVar 2) xNil))))
def h_4 (S__law_closed : FS) : XS := (sRet (xCall S__law_closed (xCons (xVar 2) (xCons (xLC (xSeq (xVarR 4)) (gTp 2 (gC (gNm 11) (gC (gNm 12) gN0))) (tBl (x2 cNe (xVarR 11) (xVarR 12))) (xTup (xCons (xFlat (xIx (xVarR 7) (xVarR 11))) (xCons (xFlat (xIx (xVarR 7) (xVarR 12))) xNil))) [11, 12]) xNil))))
theorem h__eq (S__law_draw : FS) (S__law_shuffled : FS) (S__law_closed : FS) : T__law_hill S__law_draw S__law_shuffled S__law_closed = (sSeq (h_0 S__law_draw) (sSeq (h_1 S__law_draw) (sSeq (h_2 S__law_draw) (sSeq (h_3 S__law_shuffled) (h_4 S__law_closed))))) := rfl
def hb_0 : XS := (sIf (tBl (x2 cEq (xVarR 3) (xC (.int 1)))) (sApp 4 (xTup (xCons (x2 (cI0 fun i j => i - j) (xVarR 5) (xC (.int 1))) (xCons (xVar 5) xNil)))) sNext)
def hb_1 (S__law_draw : FS) : XS := (sIf (tOrX (tBl (x2 cEq (xVarR 3) (xC (.int 2)))) (tBl (x2 cEq (xVarR 3) (xC (.int 3))))) (sSeq (sSet 6 (xTup (xCons (xVar 5) (xCons (xCall S__law_draw (xCons (xVar 0) (xCons (xVar 5) xNil))) xNil)))) (sApp 4 (xIf (tBl (x2 cEq (xVarR 3) (xC (.int 2)))) (xVar 6) (xRev (xVarR 6))))) sNext)
def hb_2 (S__law_draw : FS) : XS := (sIf (tOrX (tBl (x2 cEq (xVarR 3) (xC (.int 4)))) (tOrX (tBl (x2 cEq (xVarR 3) (xC (.int 5)))) (tBl (x2 cEq (xVarR 3) (xC (.int 8)))))) (sExt 4 (xLC (xRange1 (xCons (xVarR 5) xNil)) (gNm 8) (tBl (x2 cEq (xCall S__law_draw (xCons (xVar 0) (xCons (xIf (tBl (x2 cEq (xVarR 3) (xC (.int 8)))) (xC (.int 4)) (xC (.int 2))) xNil))) (xC (.int 0)))) (xTup (xCons (xVar 8) (xCons (xVar 5) xNil))) [8])) sNext)
def hb_3 (S__law_draw : FS) : XS := (sIf (tAndX (tBl (x2 cEq (xVarR 3) (xC (.int 6)))) (tBl (x2 (cB0 fun i j => decide (j ≤ i)) (xVarR 5) (x2 (cI CDivW fun i j => i / j) (xVarR 2) (xC (.int 2)))))) (sExt 4 (xLC (xRange1 (xCons (x2 (cI CDivW fun i j => i / j) (xVarR 2) (xC (.int 2))) xNil)) (gNm 8) (tBl (x2 cEq (xCall S__law_draw (xCons (xVar 0) (xCons (xC (.int 2)) xNil))) (xC (.int 0)))) (xTup (xCons (xVar 8) (xCons (xVar 5) xNil))) [8])) sNext)
def hb_4 : XS := (sIf (tBl (x2 cEq (xVarR 3) (xC (.int 7)))) (sExt 4 (xLC (xSeq (xLst (xCons (xC (.int 1)) (xCons (xC (.int 2)) xNil)))) (gNm 9) (tAndX (tBl (x2 (cB0 fun i j => decide (j ≤ i)) (xVarR 5) (xVarR 9))) (tOrX (tBl (x2 cEq (xVarR 9) (xC (.int 2)))) (tBl (x2 cEq (x2 (cI (fun _ j => 0 < j) fun i j => i % j) (xCB cInt (xCons (xVarR 5) xNil)) (xC (.int 2))) (xC (.int 1)))))) (xTup (xCons (x2 (cI0 fun i j => i - j) (xVarR 5) (xVarR 9)) (xCons (xVar 5) xNil))) [9])) sNext)
theorem hb__eq (S__law_draw : FS) : h_1 S__law_draw = sFor (xRange2 (xCons (xC (.int 1)) (xCons (xVarR 2) xNil))) (gNm 5) (sSeq (hb_0) (sSeq (hb_1 S__law_draw) (sSeq (hb_2 S__law_draw) (sSeq (hb_3 S__law_draw) hb_4)))) := rfl
def PIn (n : Nat) (ps : List (Nat × Nat)) : Prop := ∀ p ∈ ps, p.1 < n ∧ p.2 < n
theorem PIn.app {n : Nat} {ps qs : List (Nat × Nat)} (h : PIn n ps) (k : PIn n qs) : PIn n (ps ++ qs) := fun p m => (List.mem_append.mp m).elim (h p) (k p)
section
variable {E : XEnds} {c5 c6 c7 c8 c9 c10 c11 c12 : Cell} {n a : Nat} {most W : Int} {ps : List (Nat × Nat)}
abbrev HS (most W : Int) (n a : Nat) (ps : List (Nat × Nat)) (c6 c7 c8 c9 c10 c11 c12 : Cell) : List Cell := [.deck, .im (.int most), .im (.int n), .im (.int W), .ow ((ps.map encP).map .im), .im (.int (a : Nat)), c6, c7, c8, c9, c10, c11, c12]
theorem hb0_ok (ha : 1 ≤ a) (han : a < n) (g : PIn n ps) (hl : ps.length ≤ 500) (h : ∀ qs, PIn n qs → qs.length ≤ ps.length + 10 → E.nx (HS most W n a qs c6 c7 c8 c9 c10 c11 c12)) : hb_0 E (HS most W n a ps c6 c7 c8 c9 c10 c11 c12) := by
  by_cases e : W = 1
  · subst e
    simp [hb_0, HS, toDs, toD, -List.map_map]
    refine ⟨lt_size (by omega), ?_⟩
    have := h (ps ++ [(a - 1, a)]) (g.app fun p m => by rw [List.mem_singleton.mp m]; simp; omega) (by simp)
    simp only [HS, List.map_append, List.map_cons, List.map_nil, encP] at this
    have e1 : ((a : Int) - 1) = ((a - 1 : Nat) : Int) := by omega
    rw [e1]
    exact this
  · simp [hb_0, HS, e, -List.map_map]
    exact h ps g (by omega)
theorem hb1_ok (ha : 1 ≤ a) (han : a < n) (hn : n ≤ 10) (g : PIn n ps) (hl : ps.length ≤ 500) (h : ∀ qs c6, PIn n qs → qs.length ≤ ps.length + 10 → E.nx (HS most W n a qs c6 c7 c8 c9 c10 c11 c12)) : hb_1 S_draw E (HS most W n a ps c6 c7 c8 c9 c10 c11 c12) := by
  have fin : ∀ c6 (p : Nat × Nat), p.1 < n → p.2 < n → E.nx (HS most W n a (ps ++ [p]) c6 c7 c8 c9 c10 c11 c12) := fun c6 p h1 h2 => h (ps ++ [p]) c6 (g.app fun q m => by rw [List.mem_singleton.mp m]; exact ⟨h1, h2⟩) (by simp)
  simp only [HS, List.map_append, List.map_cons, List.map_nil] at fin
  by_cases e : W = 2
  · subst e
    simp [hb_1, HS, -List.map_map]
    refine draw_nat (by omega) (by omega) fun r hr => ?_
    simp [toDs, toD, -List.map_map]
    exact ⟨lt_size (by omega), fin _ (a, r) han (by simp; omega)⟩
  by_cases e3 : W = 3
  · subst e3
    simp [hb_1, HS, -List.map_map]
    refine draw_nat (by omega) (by omega) fun r hr => ?_
    simp [toDs, toD, -List.map_map]
    exact ⟨lt_size (by omega), fin _ (r, a) (by simp; omega) han⟩
  · simp [hb_1, HS, e, e3, -List.map_map]
    exact h ps _ g (by omega)
theorem sub_ext {qs : List (Nat × Nat)} {m : Nat} {ys : List Nat} (han : a < n) (hm : m ≤ a) (h1 : ys.Sublist (List.range m)) : PIn n (ys.map fun y => (y, a)) ∧ (ys.map fun y => (y, a)).length ≤ m := by
  refine ⟨fun p hp => ?_, by have := h1.length_le; simpa using this⟩
  obtain ⟨y, hy, rfl⟩ := List.mem_map.mp hp
  have := h1.subset hy
  simp at this
  simp
  omega
theorem hb2_ok (ha : 1 ≤ a) (han : a < n) (hn : n ≤ 10) (g : PIn n ps) (hl : ps.length ≤ 500) (h : ∀ qs, PIn n qs → qs.length ≤ ps.length + 10 → E.nx (HS most W n a qs c6 c7 c8 c9 c10 c11 c12)) : hb_2 S_draw E (HS most W n a ps c6 c7 c8 c9 c10 c11 c12) := by
  by_cases e : W = 4 ∨ W = 5 ∨ W = 8
  · have key : ∀ kk : Nat, 0 < kk → kk ≤ 4 → compGo (gNm 8) (tBl (x2 cEq (xCall S_draw (xCons (xVar 0) (xCons (xIf (tBl (x2 cEq (xVarR 3) (xC (.int 8)))) (xC (.int 4)) (xC (.int 2))) xNil))) (xC (.int 0)))) (xTup (xCons (xVar 8) (xCons (xVar 5) xNil))) (wipeC (HS most W n a ps c6 c7 c8 c9 c10 c11 c12) [8])
        (fun c => ∃ es, c = .ow es ∧ (ps.map encP).length + es.length ≤ sizeLine ∧ E.nx [.deck, .im (.int most), .im (.int n), .im (.int W), .ow ((ps.map encP).map .im ++ es), .im (.int (a : Nat)), c6, c7, c8, c9, c10, c11, c12]) ((List.range a).map fun i => .int (i : Nat)) [] := by
      intro kk h0 h1
      refine compGo_sub (fun i => .int (i : Nat)) (fun y => encP (y, a)) (fun _ => True) (fun _ => False) (List.range a) (fun b hb K1 K0 k1 k0 => ?_) fun ys y1 y2 _ => ?_
      · have dr : ∀ kk : Nat, 0 < kk → kk ≤ 10 → S_draw [.deck, .im (.int (kk : Nat))] fun c1 => ∃ d, toD c1 = some d ∧ PyData.canLay0 d = true ∧ PyData.depth d ≤ 64 ∧ if PyData.eqv d (PyData.int 0) = true then K1 (.im (encP (b, a))) else K0 := fun kk h0 h1 =>
          draw_nat h0 (by omega) fun r hr => by
            simp
            split
            · exact k1 trivial
            · exact k0 fun z => z
        by_cases e8 : W = 8
        · simp [HS, e8, toDs, toD]
          have := dr 4 (by omega) (by omega)
          simpa [encP] using this
        · simp [HS, e8, toDs, toD]
          have := dr 2 (by omega) (by omega)
          simpa [encP] using this
      · obtain ⟨q1, q2⟩ := sub_ext (qs := ps) han (Nat.le_refl a) y1
        refine ⟨_, rfl, ?_, ?_⟩
        · simp only [List.length_map] at q2 ⊢
          exact le_size (by omega)
        · have := h (ps ++ ys.map fun y => (y, a)) (g.app q1) (by rw [List.length_append]; omega)
          simpa [HS, Function.comp_def] using this
    have k2 := key 2 (by omega) (by omega)
    simp only [HS] at k2
    rcases e with rfl | rfl | rfl
    · simp [hb_2, HS, -List.map_map]
      refine ⟨by omega, ?_⟩
      simpa [-List.map_map] using k2
    · simp [hb_2, HS, -List.map_map]
      refine ⟨by omega, ?_⟩
      simpa [-List.map_map] using k2
    · simp [hb_2, HS, -List.map_map]
      refine ⟨by omega, ?_⟩
      simpa [-List.map_map] using k2
  · have e1 : W ≠ 4 := fun z => e (.inl z)
    have e2 : W ≠ 5 := fun z => e (.inr (.inl z))
    have e3 : W ≠ 8 := fun z => e (.inr (.inr z))
    simp [hb_2, HS, e1, e2, e3, -List.map_map]
    exact h ps g (by omega)
theorem hb3_ok (ha : 1 ≤ a) (han : a < n) (hn : n ≤ 10) (g : PIn n ps) (hl : ps.length ≤ 500) (h : ∀ qs, PIn n qs → qs.length ≤ ps.length + 10 → E.nx (HS most W n a qs c6 c7 c8 c9 c10 c11 c12)) : hb_3 S_draw E (HS most W n a ps c6 c7 c8 c9 c10 c11 c12) := by
  have stay : E.nx (HS most W n a ps c6 c7 c8 c9 c10 c11 c12) := h ps g (by omega)
  by_cases e : W = 6
  · subst e
    have cd : CDivW (n : Int) 2 := ⟨by decide, by decide⟩
    simp [hb_3, HS, -List.map_map]
    refine ⟨cd, ?_⟩
    split
    · rename_i e2
      refine ⟨cd, by omega, by omega, ?_⟩
      rw [show ((n : Int) / 2).toNat = n / 2 by omega]
      refine compGo_sub (fun i => .int (i : Nat)) (fun y => encP (y, a)) (fun _ => True) (fun _ => False) (List.range (n / 2)) (fun b hb K1 K0 k1 k0 => ?_) fun ys y1 y2 _ => ?_
      · simp [toDs, toD]
        refine draw_nat (k := 2) (by omega) (by omega) fun r hr => ?_
        simp
        split
        · have := k1 trivial
          simpa [encP] using this
        · exact k0 fun z => z
      · obtain ⟨q1, q2⟩ := sub_ext (qs := ps) han (show n / 2 ≤ a by omega) y1
        refine ⟨_, rfl, ?_, ?_⟩
        · simp only [List.length_map] at q2 ⊢
          exact le_size (by omega)
        · have := h (ps ++ ys.map fun y => (y, a)) (g.app q1) (by rw [List.length_append]; omega)
          simpa [HS, Function.comp_def] using this
    · exact stay
  · simp [hb_3, HS, e, -List.map_map]
    exact stay
theorem hb4_ok (ha : 1 ≤ a) (han : a < n) (hn : n ≤ 10) (g : PIn n ps) (hl : ps.length ≤ 500) (h : ∀ qs, PIn n qs → qs.length ≤ ps.length + 10 → E.nx (HS most W n a qs c6 c7 c8 c9 c10 c11 c12)) : hb_4 E (HS most W n a ps c6 c7 c8 c9 c10 c11 c12) := by
  by_cases e : W = 7
  · subst e
    have es : seqF (Cell.ow [Cell.im (PyData.int 1), Cell.im (PyData.int 2)]) = some [.int 1, .int 2] := seqF_o (ds := [.int 1, .int 2])
    have e1 : ((a : Int) - 1) = ((a - 1 : Nat) : Int) := by omega
    have fin : ∀ qs : List (Nat × Nat), PIn n qs → qs.length ≤ 10 → E.nx [.deck, .im (.int most), .im (.int n), .im (.int 7), .ow ((ps.map encP).map .im ++ (qs.map encP).map .im), .im (.int (a : Nat)), c6, c7, c8, c9, c10, c11, c12] := fun qs hq hl => by
      have := h (ps ++ qs) (g.app hq) (by rw [List.length_append]; omega)
      simpa only [HS, List.map_append] using this
    have f1 := fin [(a - 1, a)] (fun p m => by rw [List.mem_singleton.mp m]; simp; omega) (by simp)
    simp [hb_4, HS, compGo, toDs, toD, es, -List.map_map]
    rw [e1, if_pos (show (1 : Int) ≤ (a : Int) by omega)]
    by_cases a2 : 2 ≤ a
    · have e2 : ((a : Int) - 2) = ((a - 2 : Nat) : Int) := by omega
      have f2 := fin [(a - 2, a)] (fun p m => by rw [List.mem_singleton.mp m]; simp; omega) (by simp)
      have f12 := fin [(a - 1, a), (a - 2, a)] (fun p m => by
        simp at m
        rcases m with rfl | rfl <;> simp <;> omega) (by simp)
      rw [e2, if_pos (show (2 : Int) ≤ (a : Int) by omega), if_pos (show (2 : Int) ≤ (a : Int) by omega)]
      split
      · exact ⟨le_size (by omega), f12⟩
      · exact ⟨le_size (by omega), f2⟩
    · rw [if_neg (show ¬ (2 : Int) ≤ (a : Int) by omega), if_neg (show ¬ (2 : Int) ≤ (a : Int) by omega)]
      split
      · exact ⟨le_size (by omega), f1⟩
      · exact ⟨le_size (by omega), h ps g (by omega)⟩
  · simp [hb_4, HS, e, -List.map_map]
    exact h ps g (by omega)
end
end L87
set_option maxHeartbeats 1000000
namespace L87
open PySem PySem.Spec PyProof.Rows L2 DL
section
variable {E : XEnds} {c5 c6 c7 c8 c9 c10 c11 c12 : Cell} {n : Nat} {most W : Int} {ps : List (Nat × Nat)}
theorem h1_ok (h0 : 1 ≤ n) (h1 : n ≤ 10) (h : ∀ ps c5 c6, PIn n ps → ps.length ≤ 500 → E.nx [.deck, .im (.int most), .im (.int n), .im (.int W), .ow ((ps.map encP).map .im), c5, c6, c7, c8, c9, c10, c11, c12]) :
    h_1 S_draw E [.deck, .im (.int most), .im (.int n), .im (.int W), .ow [], c5, c6, c7, c8, c9, c10, c11, c12] := by
  rw [hb__eq]
  simp only [sFor, xRange2, xCons, xC, xVarR, xNil]
  simp only [List.getElem?_cons_succ, List.getElem?_cons_zero]
  refine ⟨_, rfl, (by intro z; cases z), 1, n, rfl, by omega, ?_⟩
  have em : ((n : Int) - 1).toNat = n - 1 := by omega
  rw [em]
  refine forGo_pre (fun i : Nat => PyData.int (1 + (i : Int))) (fun p a => p ++ [a]) (fun (p : List Nat) γ => ∃ (ps : List (Nat × Nat)) (c5 c6 : Cell), γ = [.deck, .im (.int most), .im (.int n), .im (.int W), .ow ((ps.map encP).map .im), c5, c6, c7, c8, c9, c10, c11, c12] ∧ PIn n ps ∧ ps.length ≤ 50 * p.length) [] (List.range (n - 1)) _ ⟨[], _, _, rfl, (fun _ z => nomatch z), by simp⟩ ?_ ?_
  · rintro pre i rest e γ ⟨ps, c5, c6, rfl, g1, g2⟩ nx hnx
    rw [fold_snoc, List.nil_append] at g2
    rw [fold_snoc, List.nil_append] at hnx
    have hi : i = pre.length ∧ i < n - 1 := by
      have h1 : (List.range (n - 1))[pre.length]? = some i := by rw [e]; simp
      rw [List.getElem?_eq_some_iff] at h1
      obtain ⟨h1, h2⟩ := h1
      simp at h1 h2
      omega
    obtain ⟨hi1, hi2⟩ := hi
    have ea : (1 + (i : Int)) = ((i + 1 : Nat) : Int) := by omega
    simp only [gNm, ea, List.set_cons_succ, List.set_cons_zero]
    have a0 : 1 ≤ i + 1 := by omega
    have an : i + 1 < n := by omega
    rw [sSeq]
    refine hb0_ok a0 an g1 (by omega) fun q0 g0 l0 => ?_
    simp only []
    rw [sSeq]
    refine hb1_ok a0 an h1 g0 (by omega) fun q1 c6 g1 l1 => ?_
    simp only []
    rw [sSeq]
    refine hb2_ok a0 an h1 g1 (by omega) fun q2 g2 l2 => ?_
    simp only []
    rw [sSeq]
    refine hb3_ok a0 an h1 g2 (by omega) fun q3 g3 l3 => ?_
    simp only []
    refine hb4_ok a0 an h1 g3 (by omega) fun q4 g4 l4 => ?_
    exact hnx _ ⟨q4, _, _, rfl, g4, by rw [List.length_append]; simp; omega⟩
  · rintro γ ⟨ps, c5, c6, rfl, g1, g2⟩
    rw [fold_snoc, List.nil_append] at g2
    simp at g2
    exact h ps _ _ g1 (by omega)
theorem h2_ok (h0 : 1 ≤ n) (h1 : n ≤ 10) (g : PIn n ps) (hl : ps.length ≤ 500) (h : ∀ qs, PIn n qs → qs.length ≤ 600 → E.nx [.deck, .im (.int most), .im (.int n), .im (.int W), .ow ((qs.map encP).map .im), c5, c6, c7, c8, c9, c10, c11, c12]) :
    h_2 S_draw E [.deck, .im (.int most), .im (.int n), .im (.int W), .ow ((ps.map encP).map .im), c5, c6, c7, c8, c9, c10, c11, c12] := by
  by_cases e : W = 5
  · subst e
    have cd : CDivW (n : Int) 4 := ⟨by decide, by decide⟩
    simp [h_2, -List.map_map]
    refine ⟨cd, by omega, by omega, ?_⟩
    refine compGo_all encN encP (fun p : Nat × Nat => p.1 < n ∧ p.2 < n) (List.range (1 + (n : Int) / 4).toNat) (fun b hb K1 K0 k1 => ?_) fun ys hy hP => ?_
    · simp
      refine draw_nat (by omega) (by omega) fun r hr => ?_
      refine draw_nat (by omega) (by omega) fun r2 hr2 => ?_
      simp [toDs, toD]
      exact k1 (r, r2) ⟨hr, hr2⟩
    · simp at hy
      refine ⟨_, rfl, ?_, ?_⟩
      · simp only [List.length_map]
        exact le_size (by omega)
      · have := h (ps ++ ys) (g.app hP) (by rw [List.length_append]; omega)
        simpa using this
  · simp [h_2, e, -List.map_map]
    exact h ps g (by omega)
end
def S_hill : FS := fun cs K' => ∃ most : Nat, cs = [.deck, .im (.int (most : Nat))] ∧ 1 ≤ most ∧ most ≤ 10 ∧ ∀ h : Hl, h.ok → h.n ≤ most → K' (.im (encH h))
theorem m_hill : Main (T__law_hill S_draw S_shuffled S_lclosed) N__law_hill S_hill := by
  rintro cs K' ⟨most, rfl, m0, m1, h⟩
  rw [h__eq]
  show sSeq _ _ _ [.deck, .im (.int most), .un, .un, .un, .un, .un, .un, .un, .un, .un, .un, .un]
  rw [sSeq]
  simp [h_0]
  refine draw_nat m0 (by omega) fun r hr => ?_
  simp
  refine draw_nat (k := 9) (by omega) (by omega) fun w hw => ?_
  rw [show (1 + (r : Int)) = ((r + 1 : Nat) : Int) by omega]
  refine h1_ok (by omega) (by omega) fun ps c5 c6 g1 l1 => ?_
  refine h2_ok (by omega) (by omega) g1 l1 fun qs g2 l2 => ?_
  simp [h_3, -List.map_map]
  refine ⟨r + 1, by simp, by omega, by omega, fun l hl hm => ?_⟩
  simp [h_4, -List.map_map]
  have at_ : ∀ x, x < r + 1 → ∃ y, y < r + 1 ∧ l.getD x 0 = y := fun x hx => ⟨_, hm _ (by rw [List.getD_eq_getElem?_getD, List.getElem?_eq_getElem (show x < l.length by omega)]; exact List.getElem_mem _), rfl⟩
  refine compGo_fm encP (fun p => decide (p.1 ≠ p.2)) (fun p => encP (l.getD p.1 0, l.getD p.2 0)) qs (fun p hp K1 K0 k1 k0 => ?_) ?_
  · obtain ⟨p1, p2⟩ := g2 p hp
    simp [encP, natsC_at (show p.1 < l.length by omega), natsC_at (show p.2 < l.length by omega), toDs, toD, -List.getD_eq_getElem?_getD, -List.map_map]
    by_cases e : p.1 = p.2
    · exact .inl ⟨by omega, k0 (by simp [e])⟩
    · refine .inr ⟨by omega, ?_⟩
      have := k1 (by simp [e])
      simpa [encP, -List.getD_eq_getElem?_getD] using this
  · obtain ⟨qq, eq_⟩ : ∃ qq, qq = (qs.filter fun p => decide (p.1 ≠ p.2)).map fun p => (l.getD p.1 0, l.getD p.2 0) := ⟨_, rfl⟩
    refine ⟨r + 1, qq, .ow ((qq.map encP).map .im), by rw [eq_]; simp [Function.comp_def], .inl rfl, by omega, by omega, fun p hp => ?_, fun b ok hn _ _ => h b ok (by omega)⟩
    rw [eq_] at hp
    obtain ⟨q, hq, rfl⟩ := List.mem_map.mp hp
    obtain ⟨p1, p2⟩ := g2 q (List.mem_filter.mp hq).1
    obtain ⟨y, hy, ey⟩ := at_ _ p1
    obtain ⟨z, hz, ez⟩ := at_ _ p2
    simp only []
    omega
end L87
set_option maxHeartbeats 1000000
namespace L87
open PySem PySem.Spec PyProof.Rows L2 DL
open PySem.W (AllAlike Sortable)
def rowsN (n : Nat) (L : Nat → List Nat) : Cell := .ow ((List.range n).map fun x => .ow ((nats (L x)).map .im))
def rowsD (n : Nat) (L : Nat → List Nat) : List D := (List.range n).map fun x => .list (nats (L x))
@[simp] theorem rowsN_ne {n : Nat} {L : Nat → List Nat} : (rowsN n L = .un) = False := by simp [rowsN]
theorem toDs_rows (L : Nat → List Nat) : ∀ l : List Nat, toDs (l.map fun x => Cell.ow ((nats (L x)).map .im)) = some (l.map fun x => PyData.list (nats (L x)))
  | [] => by simp [toDs]
  | x :: l => by
    have h1 : toD (Cell.ow ((nats (L x)).map .im)) = some (.list (nats (L x))) := by simp only [toD]; rw [toDs_im]; rfl
    simp only [List.map_cons, toDs, h1, toDs_rows L l]
theorem frz_rows (n : Nat) (L : Nat → List Nat) : frz (rowsN n L) = .im (.list (rowsD n L)) := by
  unfold rowsN
  simp only [frz, toDs_rows]
  rfl
theorem toD_rows (n : Nat) (L : Nat → List Nat) : toD (rowsN n L) = some (.list (rowsD n L)) := by
  unfold rowsN
  simp only [toD, toDs_rows]
  rfl
theorem rows_set {n k : Nat} {L : Nat → List Nat} {l : List Nat} : ((List.range n).map fun x => Cell.ow ((nats (L x)).map .im)).set k (.ow ((nats l).map .im)) = (List.range n).map fun x => Cell.ow ((nats (if x = k then l else L x)).map .im) := by
  apply List.ext_getElem
  · simp
  · intro i h1 h2
    simp only [List.getElem_set, List.getElem_map, List.getElem_range]
    by_cases e : k = i
    · subst e; simp
    · have : ¬ i = k := fun z => e z.symm
      simp [e, this]
abbrev SidesC (c0 cn cp : Cell) (n : Nat) (L M : Nat → List Nat) (c5 c6 c7 c8 : Cell) : List Cell := [c0, cn, cp, rowsN n L, rowsN n M, c5, c6, c7, c8]
def addT (L : Nat → List Nat) (k v : Nat) : Nat → List Nat := fun x => if x = k then L x ++ [v] else L x
theorem fold_rows (t s : Nat × Nat → Nat) (x : Nat) : ∀ (ps : List (Nat × Nat)) (L : Nat → List Nat), ps.foldl (fun L p => addT L (t p) (s p)) L x = L x ++ (ps.filter fun p => decide (t p = x)).map s
  | [], L => by simp
  | p :: ps, L => by
    rw [List.foldl_cons, fold_rows t s x ps, List.filter_cons]
    unfold addT
    by_cases e : t p = x
    · simp [e]
    · have : ¬ x = t p := fun z => e z.symm
      simp [e, this]
theorem fold_two (f g : (Nat → List Nat) → Nat × Nat → Nat → List Nat) : ∀ (ps : List (Nat × Nat)) (q : (Nat → List Nat) × (Nat → List Nat)), ps.foldl (fun q p => (f q.1 p, g q.2 p)) q = (ps.foldl f q.1, ps.foldl g q.2)
  | [], q => rfl
  | p :: ps, q => by rw [List.foldl_cons, fold_two f g ps]; rfl
theorem dn_row {b : Hl} (ok : b.ok) {x : Nat} (hx : x < b.n) : ([x] ++ ((prs b).filter fun p => decide (p.2 = x)).map (·.1)).Nodup ∧ ∀ a, a ∈ [x] ++ ((prs b).filter fun p => decide (p.2 = x)).map (·.1) ↔ a < b.n ∧ b.le a x = true := by
  refine ⟨?_, fun a => ?_⟩
  · refine List.nodup_cons.mpr ⟨fun m => ?_, ?_⟩
    · obtain ⟨p, hp, e⟩ := List.mem_map.mp m
      obtain ⟨h1, h2⟩ := List.mem_filter.mp hp
      have := (mem_prs.mp h1).2.2.1
      simp at h2
      omega
    · refine List.pairwise_map.mpr ?_
      refine List.Pairwise.imp_of_mem (fun {p q} hp hq h => ?_) ((prs_asc b).filter _)
      have e1 := (List.mem_filter.mp hp).2
      have e2 := (List.mem_filter.mp hq).2
      simp at e1 e2
      unfold lexP at h
      split at h
      · simp at h; omega
      · assumption
  · simp only [List.singleton_append, List.mem_cons, List.mem_map, List.mem_filter, decide_eq_true_eq]
    constructor
    · rintro (rfl | ⟨p, ⟨h1, rfl⟩, rfl⟩)
      · exact ⟨hx, ok.refl _ hx⟩
      · exact ⟨(mem_prs.mp h1).1, (mem_prs.mp h1).2.2.2⟩
    · rintro ⟨ha, l⟩
      by_cases e : a = x
      · exact .inl e
      · exact .inr ⟨(a, x), ⟨mem_prs.mpr ⟨ha, hx, e, l⟩, rfl⟩, rfl⟩
theorem up_row {b : Hl} (ok : b.ok) {x : Nat} (hx : x < b.n) : ([x] ++ ((prs b).filter fun p => decide (p.1 = x)).map (·.2)).Nodup ∧ ∀ a, a ∈ [x] ++ ((prs b).filter fun p => decide (p.1 = x)).map (·.2) ↔ a < b.n ∧ b.le x a = true := by
  refine ⟨?_, fun a => ?_⟩
  · refine List.nodup_cons.mpr ⟨fun m => ?_, ?_⟩
    · obtain ⟨p, hp, e⟩ := List.mem_map.mp m
      obtain ⟨h1, h2⟩ := List.mem_filter.mp hp
      have := (mem_prs.mp h1).2.2.1
      simp at h2
      omega
    · refine List.pairwise_map.mpr ?_
      refine List.Pairwise.imp_of_mem (fun {p q} hp hq h => ?_) ((prs_asc b).filter _)
      have e1 := (List.mem_filter.mp hp).2
      have e2 := (List.mem_filter.mp hq).2
      simp at e1 e2
      unfold lexP at h
      split at h
      · simp at h; omega
      · omega
  · simp only [List.singleton_append, List.mem_cons, List.mem_map, List.mem_filter, decide_eq_true_eq]
    constructor
    · rintro (rfl | ⟨p, ⟨h1, rfl⟩, rfl⟩)
      · exact ⟨hx, ok.refl _ hx⟩
      · exact ⟨(mem_prs.mp h1).2.1, (mem_prs.mp h1).2.2.2⟩
    · rintro ⟨ha, l⟩
      by_cases e : a = x
      · exact .inl e
      · exact .inr ⟨(x, a), ⟨mem_prs.mpr ⟨hx, ha, fun z => e z.symm, l⟩, rfl⟩, rfl⟩
theorem sort_row {n : Nat} {S : Nat → Bool} {l : List Nat} (nd : l.Nodup) (hm : ∀ a, a ∈ l ↔ a < n ∧ S a = true) : sortD (nats l) = nats (lotL n S) := by
  obtain ⟨l', e, p, a⟩ := sortD_nat l nd
  have : l' = lotL n S := lotL_of a fun k => by rw [p.mem_iff, hm]
  rw [this] at e
  exact e
def sidesD (b : Hl) : D := .tuple [.list (rowsD b.n fun x => lotL b.n (dnR b x)), .list (rowsD b.n fun x => lotL b.n (upR b x))]
def S_sides : FS := fun cs K' => ∃ b : Hl, cs = [.im (encH b)] ∧ b.ok ∧ K' (.im (sidesD b))
def s_0 : XS := (sAsg (xVar 0) (gTp 2 (gC (gNm 1) (gC (gNm 2) gN0))))
def s_1 : XS := (sPar [3, 4] (xCons (xLC (xRange1 (xCons (xVarR 1) xNil)) (gNm 7) uYes (xLst (xCons (xVar 7) xNil)) [7]) (xCons (xLC (xRange1 (xCons (xVarR 1) xNil)) (gNm 7) uYes (xLst (xCons (xVar 7) xNil)) [7]) xNil)))
def s_2 : XS := (sFor (xSeq (xVar 2)) (gTp 2 (gC (gNm 5) (gC (gNm 6) gN0))) (sSeq (sApp2 3 (xVarR 6) (xVar 5)) (sApp2 4 (xVarR 5) (xVar 6))))
def s_3 : XS := (sFz [3, 4] (sRet (xTup (xCons (xLC (xSeq (xVarR 3)) (gNm 8) uYes (xCB cSorted (xCons (xVarR 8) xNil)) [8]) (xCons (xLC (xSeq (xVarR 4)) (gNm 8) uYes (xCB cSorted (xCons (xVarR 8) xNil)) [8]) xNil)))))
theorem s__eq : T__law_sides = (sSeq (s_0) (sSeq (s_1) (sSeq (s_2) s_3))) := rfl
theorem m_sides : Main T__law_sides N__law_sides S_sides := by
  rintro cs K' ⟨b, rfl, ok, h⟩
  have t1 := ok.top
  rw [s__eq]
  show sSeq _ _ _ [.im (encH b), .un, .un, .un, .un, .un, .un, .un, .un]
  rw [sSeq]
  simp [s_0, encH]
  simp [s_1, -List.map_map]
  refine ⟨by omega, compGo_mapC encN (fun x => .ow ((nats [x]).map .im)) (List.range b.n) (fun x hx K1 K0 hk => by simpa [encN, nats] using hk) ?_⟩
  refine ⟨by omega, compGo_mapC encN (fun x => .ow ((nats [x]).map .im)) (List.range b.n) (fun x hx K1 K0 hk => by simpa [encN, nats] using hk) ?_⟩
  have key : ∀ (E : XEnds) c5 c6 c7 c8 n', (∀ L M c5 c6, (∀ x, x < b.n → (L x).Nodup ∧ ∀ a, a ∈ L x ↔ a < b.n ∧ b.le a x = true) → (∀ x, x < b.n → (M x).Nodup ∧ ∀ a, a ∈ M x ↔ a < b.n ∧ b.le x a = true) → E.nx (SidesC (.im (encH b)) n' (.im (.tuple ((prs b).map encP))) b.n L M c5 c6 c7 c8)) →
      s_2 E (SidesC (.im (encH b)) n' (.im (.tuple ((prs b).map encP))) b.n (fun x => [x]) (fun x => [x]) c5 c6 c7 c8) := by
    intro E c5 c6 c7 c8 n' hE
    simp [s_2, -List.map_map]
    refine forGo_pre encP (fun (q : (Nat → List Nat) × (Nat → List Nat)) p => (addT q.1 p.2 p.1, addT q.2 p.1 p.2)) (fun q γ => ∃ c5 c6, γ = SidesC (.im (encH b)) n' (.im (.tuple ((prs b).map encP))) b.n q.1 q.2 c5 c6 c7 c8) (fun x => [x], fun x => [x]) (prs b) _ ⟨_, _, rfl⟩ ?_ ?_
    · rintro pre p rest e γ ⟨c5, c6, rfl⟩ nx hnx
      obtain ⟨p1, p2, p3, p4⟩ := mem_prs.mp (show p ∈ prs b by rw [e]; simp)
      rw [fold_two (fun L p => addT L p.2 p.1) (fun M p => addT M p.1 p.2)] at hnx ⊢
      have bnd : ∀ (t s : Nat × Nat → Nat) x, (pre.foldl (fun L p => addT L (t p) (s p)) (fun x => [x]) x).length ≤ 101 := fun t s x => by
        rw [fold_rows]
        have h1 := List.length_filter_le (fun p => decide (t p = x)) pre
        have h2 := prs_len b
        have h3 : b.n * b.n ≤ 10 * 10 := Nat.mul_le_mul t1 t1
        have h4 := congrArg List.length e
        simp at h4 ⊢
        omega
      have b1 := bnd (·.2) (·.1) p.2
      have b2 := bnd (·.1) (·.2) p.1
      generalize pre.foldl (fun L p => addT L p.2 p.1) (fun x => [x]) = L at hnx b1 ⊢
      generalize pre.foldl (fun M p => addT M p.1 p.2) (fun x => [x]) = M at hnx b2 ⊢
      simp [encP, SidesC]
      refine ⟨_, rfl, p.2, ixN_nat (by simpa using p2), nats (L p.2), by simp [p2], lt_size (by rw [nats_len]; omega), _, rfl, p.1, ixN_nat (by simpa using p1), nats (M p.1), by simp [p1], lt_size (by rw [nats_len]; omega), ?_⟩
      have e1 : (nats (L p.2)).map Cell.im ++ [Cell.im (PyData.int (p.1 : Nat))] = (nats (L p.2 ++ [p.1])).map .im := by simp [nats]
      have e2 : (nats (M p.1)).map Cell.im ++ [Cell.im (PyData.int (p.2 : Nat))] = (nats (M p.1 ++ [p.2])).map .im := by simp [nats]
      rw [e1, e2, rows_set, rows_set]
      refine hnx _ ⟨.im (.int (p.1 : Nat)), .im (.int (p.2 : Nat)), ?_⟩
      have f1 : (fun x => if x = p.2 then L p.2 ++ [p.1] else L x) = addT L p.2 p.1 := by
        funext x; unfold addT; split
        · rename_i e; rw [e]
        · rfl
      have f2 : (fun x => if x = p.1 then M p.1 ++ [p.2] else M x) = addT M p.1 p.2 := by
        funext x; unfold addT; split
        · rename_i e; rw [e]
        · rfl
      rw [← f1, ← f2]
      rfl
    · rintro γ ⟨c5, c6, rfl⟩
      rw [fold_two (fun L p => addT L p.2 p.1) (fun M p => addT M p.1 p.2)]
      refine hE _ _ _ _ (fun x hx => ?_) fun x hx => ?_
      · simp only []
        rw [fold_rows]
        exact dn_row ok hx
      · simp only []
        rw [fold_rows]
        exact up_row ok hx
  refine key _ _ _ _ _ _ fun L M c5 c6 hL hM => ?_
  simp only [s_3, sFz, fzAll]
  show sRet _ _ [.im (encH b), .im (.int b.n), .im (.tuple ((prs b).map encP)), frz (rowsN b.n L), frz (rowsN b.n M), c5, c6, .un, .un]
  rw [frz_rows, frz_rows]
  have srt : ∀ (G : Nat → Nat → Bool) (L : Nat → List Nat) (hL : ∀ x, x < b.n → (L x).Nodup ∧ ∀ a, a ∈ L x ↔ a < b.n ∧ G x a = true) (A B C D' c5 c6 c7 : Cell) (K : Cell → Prop), K (rowsN b.n fun x => lotL b.n (G x)) →
      compGo (gNm 8) uYes (xCB cSorted (xCons (xVarR 8) xNil)) [A, B, C, .im (.list (rowsD b.n L)), D', c5, c6, c7, .un] K (rowsD b.n L) [] ∧ compGo (gNm 8) uYes (xCB cSorted (xCons (xVarR 8) xNil)) [A, B, C, D', .im (.list (rowsD b.n L)), c5, c6, c7, .un] K (rowsD b.n L) [] := by
    intro G L hL A B C D' c5 c6 c7 K hK
    have one : ∀ x ∈ List.range b.n, AllAlike (nats (L x)) ∧ Sortable (nats (L x)) ∧ (∀ d ∈ nats (L x), d.depth ≤ 60) ∧ sortD (nats (L x)) = nats (lotL b.n (G x)) := fun x hx => by
      obtain ⟨nd, hm⟩ := hL x (by simpa using hx)
      obtain ⟨a1, a2, a3⟩ := alike_nats (L x)
      exact ⟨a1, a2, a3, sort_row nd hm⟩
    constructor
    · refine compGo_mapC (fun x => .list (nats (L x))) (fun x => .ow ((nats (lotL b.n (G x))).map .im)) (List.range b.n) (fun x hx K1 K0 hk => ?_) hK
      obtain ⟨d2, d3, d4, d5⟩ := one x hx
      simp [-List.map_map]
      exact ⟨d2, d3, d4, by rw [d5]; exact hk⟩
    · refine compGo_mapC (fun x => .list (nats (L x))) (fun x => .ow ((nats (lotL b.n (G x))).map .im)) (List.range b.n) (fun x hx K1 K0 hk => ?_) hK
      obtain ⟨d2, d3, d4, d5⟩ := one x hx
      simp [-List.map_map]
      exact ⟨d2, d3, d4, by rw [d5]; exact hk⟩
  simp [-List.map_map]
  refine (srt (dnR b) L hL _ _ _ _ _ _ _ _ ?_).1
  refine (srt (upR b) M hM _ _ _ _ _ _ _ _ ?_).2
  simp [toDs, toD_rows]
  exact h
end L87
set_option maxHeartbeats 1000000
namespace L87
open PySem PySem.Spec PyProof.Rows L2 DL
open PySem.W (AllAlike Sortable)
@[simp] theorem layAll_nats (l : List Nat) : PyData.canLayAll0 (nats l) = true := layAll_nat l
@[simp] theorem depAll_nats (l : List Nat) : PyData.depthAll (nats l) = 0 := depAll_nat l
theorem lotG_at {n x : Nat} {L : Nat → List Nat} (h : x < n) : atI (rowsD n L) (x : Int) = some (.list (nats (L x))) := by
  unfold rowsD
  rw [DL.atI_nat (by simpa using h)]
  simp
@[simp] theorem ex_nats (l : List Nat) (a : Nat) : (∃ z, z ∈ nats l ∧ PyData.eqv z (.int (a : Nat)) = true) ↔ a ∈ l := ex_nat l a
@[simp] theorem all_nats (l : List Nat) (a : Nat) : (∀ z, z ∈ nats l → PyData.eqv z (.int (a : Nat)) = false) ↔ a ∉ l := by
  rw [← ex_nats l a]
  constructor
  · rintro h ⟨z, m, e⟩; rw [h z m] at e; cases e
  · intro h z m
    cases e : PyData.eqv z (.int (a : Nat)) with
    | false => rfl
    | true => exact absurd ⟨z, m, e⟩ h
theorem sortU_lot {acc : List Nat} {n : Nat} {T : Nat → Bool} (hm : ∀ a, a ∈ acc ↔ a < n ∧ T a = true) : sortU (acc.map fun x : Nat => (x : Int)) = (lotL n T).map fun x : Nat => (x : Int) := by
  refine asc_one (asc_sortU _) (by rw [List.pairwise_map]; exact (asc_lotL n T).imp fun h => by omega) fun k => ?_
  rw [mem_sortU]
  simp only [List.mem_map, mem_lotL, hm]
def S_lclosing : FS := fun cs K' => ∃ (n : Nat) (G : Nat → Nat → Bool) (S : Nat → Bool), cs = [.im (.list (rowsD n fun x => lotL n (G x))), .im (encL (lotL n S))] ∧ n ≤ 10 ∧ K' (.im (encL (lotL n fun a => (lotL n S).any fun x => G x a)))
theorem m_lclosing : Main T__law_closing N__law_closing S_lclosing := by
  rintro cs K' ⟨n, G, S, rfl, hn, h⟩
  simp [T__law_closing, encL]
  refine forGo_pre encN (fun acc x => acc ++ lotL n (G x)) (fun acc γ => ∃ c3, γ = [.im (.list (rowsD n fun x => lotL n (G x))), .im (encL (lotL n S)), .ow ((nats acc).map .im), c3]) [] (lotL n S) _ ⟨.un, rfl⟩ ?_ ?_
  · rintro pre x rest e γ ⟨c3, rfl⟩ nx hnx
    have hx : x < n := (mem_lotL.mp (show x ∈ lotL n S by rw [e]; simp)).1
    have hlen : ∀ (l : List Nat) (acc : List Nat), (l.foldl (fun acc x => acc ++ lotL n (G x)) acc).length ≤ acc.length + l.length * n := by
      intro l
      induction l with
      | nil => intro acc; simp
      | cons y l ih =>
        intro acc
        have h1 := ih (acc ++ lotL n (G y))
        have h2 := len_lotL n (G y)
        rw [List.length_append] at h1
        rw [List.foldl_cons, List.length_cons, Nat.succ_mul]
        omega
    have h1 := hlen pre []
    have h2 := len_lotL n (G x)
    have h3 : pre.length * n ≤ 10 * 10 := Nat.mul_le_mul (by have := congrArg List.length e; have := len_lotL n S; simp at *; omega) hn
    generalize pre.foldl (fun acc x => acc ++ lotL n (G x)) [] = acc at h1 hnx ⊢
    simp [encN, lotG_at hx]
    refine ⟨le_size (by simp at h1; omega), ?_⟩
    have := hnx _ ⟨.im (.int (x : Nat)), rfl⟩
    simpa [nats] using this
  · rintro γ ⟨c3, rfl⟩
    have hm : ∀ (l : List Nat) (acc : List Nat) a, a ∈ l.foldl (fun acc x => acc ++ lotL n (G x)) acc ↔ a ∈ acc ∨ ∃ x ∈ l, a < n ∧ G x a = true := fun l acc a => fold_mem (fun acc x => acc ++ lotL n (G x)) (fun x a => a < n ∧ G x a = true) (fun acc x a => by rw [List.mem_append, mem_lotL]) l acc a
    have hlen : ∀ (l : List Nat) (acc : List Nat), (l.foldl (fun acc x => acc ++ lotL n (G x)) acc).length ≤ acc.length + l.length * n := fun l acc => fold_len _ n (fun acc x => by rw [List.length_append]; have := len_lotL n (G x); omega) l acc
    have h1 := hlen (lotL n S) []
    have h3 : (lotL n S).length * n ≤ 10 * 10 := Nat.mul_le_mul (by have := len_lotL n S; omega) hn
    have hm2 := hm (lotL n S) []
    generalize (lotL n S).foldl (fun acc x => acc ++ lotL n (G x)) [] = acc at h1 hm2 ⊢
    have es := sortU_lot (acc := acc) (n := n) (T := fun a => (lotL n S).any fun x => G x a) fun a => by
      rw [hm2]
      simp only [List.not_mem_nil, false_or, List.any_eq_true]
      constructor
      · rintro ⟨x, m, ha, g⟩; exact ⟨ha, x, m, g⟩
      · rintro ⟨ha, x, m, g⟩; exact ⟨x, m, ha, g⟩
    simp [-List.map_map]
    have h2 := len_lotL n fun a => (lotL n S).any fun x => G x a
    refine ⟨acc.map fun x : Nat => (x : Int), by simp [nats, Function.comp_def], by simp at h1 ⊢; omega, by rw [es, List.length_map]; omega, ?_⟩
    rw [es]
    refine ⟨(nats (lotL n fun a => (lotL n S).any fun x => G x a)), ?_, h⟩
    have := seqF_o (ds := nats (lotL n fun a => (lotL n S).any fun x => G x a))
    simpa [nats, Function.comp_def] using this
def outB (n : Nat) (G : Nat → Nat → Bool) (S : Nat → Bool) (a : Nat) : Bool := ((lotL n S).filter fun b => G a b && (!G b a || decide (b < a))).isEmpty
theorem outB_end {n : Nat} {G : Nat → Nat → Bool} {S : Nat → Bool} {a : Nat} : (S a && outB n G S a) = endB n G (fun x y => G y x) S a := by
  rw [Bool.eq_iff_iff, endB_iff, Bool.and_eq_true]
  unfold outB
  rw [List.isEmpty_iff, List.filter_eq_nil_iff]
  simp only [mem_lotL, Bool.and_eq_true, Bool.or_eq_true, Bool.not_eq_true', decide_eq_true_eq, not_and, not_or]
  constructor
  · rintro ⟨s, h⟩
    refine ⟨s, fun y hy sy g => ?_, fun y hy hl sy g g' => (h y ⟨hy, sy⟩ g).2 hl⟩
    have := (h y ⟨hy, sy⟩ g).1
    simpa using this
  · rintro ⟨s, h1, h2⟩
    refine ⟨s, fun y ⟨hy, sy⟩ g => ⟨by rw [h1 y hy sy g]; simp, fun hl => h2 y hy hl sy g (h1 y hy sy g)⟩⟩
def S_outer : FS := fun cs K' => ∃ (n : Nat) (G : Nat → Nat → Bool) (S : Nat → Bool), cs = [.im (.list (rowsD n fun x => lotL n (G x))), .im (encL (lotL n S))] ∧ n ≤ 10 ∧ K' (.im (encL (lotL n (endB n G (fun x y => G y x) S))))
theorem m_outer : Main T__law_outer N__law_outer S_outer := by
  rintro cs K' ⟨n, G, S, rfl, hn, h⟩
  simp [T__law_outer, encL]
  refine forGo_pre encN (fun acc x => if outB n G S x = true then acc ++ [x] else acc) (fun acc γ => ∃ c3 c4, γ = [.im (.list (rowsD n fun x => lotL n (G x))), .im (encL (lotL n S)), .ow ((nats acc).map .im), c3, c4]) [] (lotL n S) _ ⟨.un, .un, rfl⟩ ?_ ?_
  · rintro pre x rest e γ ⟨c3, c4, rfl⟩ nx hnx
    have hx : x < n := (mem_lotL.mp (show x ∈ lotL n S by rw [e]; simp)).1
    simp [encN, lotG_at hx, encL]
    refine compGo_fm encN (fun b => G x b && (!G b x || decide (b < x))) encN (lotL n S) (fun b hb K1 K0 k1 k0 => ?_) ?_
    · have hb' : b < n := (mem_lotL.mp hb).1
      simp [encN, lotG_at hx, lotG_at hb', mem_lotL, hx, hb']
      cases g1 : G x b
      · simpa using k0 (by simp [g1])
      · cases g2 : G b x
        · simpa [encN] using k1 (by simp [g1, g2])
        · by_cases hl : b < x
          · simpa [hl, encN] using k1 (by simp [g1, g2, hl])
          · simpa [hl] using k0 (by simp [g1, g2, hl])
    · generalize hacc : pre.foldl (fun acc x => if outB n G S x = true then acc ++ [x] else acc) [] = acc at hnx ⊢
      have hlen : acc.length ≤ 10 := by
        rw [← hacc]
        have flt : ∀ (l acc : List Nat), (l.foldl (fun acc x => if outB n G S x = true then acc ++ [x] else acc) acc).length ≤ acc.length + l.length := by
          intro l
          induction l with
          | nil => intro acc; simp
          | cons x l ih =>
            intro acc
            rw [List.foldl_cons]
            have h1 := ih (if outB n G S x = true then acc ++ [x] else acc)
            have h2 : (if outB n G S x = true then acc ++ [x] else acc).length ≤ acc.length + 1 := by split <;> simp
            rw [List.length_cons]
            omega
        have h1 := flt pre []
        have h2 := congrArg List.length e
        have h3 := len_lotL n S
        simp at h1 h2
        omega
      refine ⟨.list (nats ((lotL n S).filter fun b => G x b && (!G b x || decide (b < x)))), ?_, by simp, by simp, ?_⟩
      · show toD (.ow ((nats _).map .im)) = _
        simp only [toD]
        rw [toDs_im]
        rfl
      have eo : PyData.eqv (.list (nats ((lotL n S).filter fun b => G x b && (!G b x || decide (b < x))))) (.list []) = outB n G S x := by
        unfold outB
        cases (lotL n S).filter fun b => G x b && (!G b x || decide (b < x)) <;> simp [nats]
      rw [eo]
      cases eb : outB n G S x
      · have := hnx _ ⟨.im (.int (x : Nat)), c4, rfl⟩
        rw [eb] at this
        simpa [encL, encN] using this
      · have := hnx _ ⟨.im (.int (x : Nat)), c4, rfl⟩
        rw [eb] at this
        refine ⟨lt_size (by omega), ?_⟩
        simpa [encL, encN, nats] using this
  · rintro γ ⟨c3, c4, rfl⟩
    have flt : ∀ (l acc : List Nat), l.foldl (fun acc x => if outB n G S x = true then acc ++ [x] else acc) acc = acc ++ l.filter (outB n G S) := by
      intro l
      induction l with
      | nil => intro acc; simp
      | cons x l ih =>
        intro acc
        rw [List.foldl_cons, ih, List.filter_cons]
        split <;> simp
    rw [flt, List.nil_append]
    have e : (lotL n S).filter (outB n G S) = lotL n (endB n G (fun x y => G y x) S) := by
      unfold lotL
      rw [List.filter_filter]
      refine List.filter_congr fun a _ => ?_
      rw [Bool.and_comm]
      exact outB_end
    rw [e]
    simp [-List.map_map]
    exact h
def lastD : Option Nat → D
  | none => .none
  | some k => .int (k : Nat)
def LastsOk (b : Hl) (s : List Deed) (g : Nat → Option Nat) : Prop := ∀ x, x < b.n → (g x).map (fun k => (s.getD k (false, 0)).1) = sem b s x none ∧ ∀ k, g x = some k → k < s.length
def S_lasts : FS := fun cs K' => ∃ (b : Hl) (s : List Deed), cs = [.im (sidesD b), .im (encS s)] ∧ b.ok ∧ InS b.n s ∧ ∀ g, LastsOk b s g → K' (.ow (((List.range b.n).map fun x => lastD (g x)).map .im))
theorem m_lasts : Main T__law_lasts N__law_lasts S_lasts := by
  rintro cs K' ⟨b, s, rfl, ok, hs, h⟩
  have t1 := ok.top
  have hb : (rowsD b.n fun x => lotL b.n (dnR b x)).length = b.n := by simp [rowsD]
  simp [T__law_lasts, sidesD]
  refine ⟨[.none], rfl, by rw [hb]; omega, by rw [hb]; exact le_size (by simp; omega), s.map encDeed, rfl, ?_⟩
  rw [enumD_map]
  have e0 : (List.replicate (rowsD b.n fun x => lotL b.n (dnR b x)).length (List.map Cell.im [PyData.none])).flatten = ((List.range b.n).map fun x => lastD none).map Cell.im := by
    rw [hb]
    generalize b.n = n
    induction n with
    | zero => rfl
    | succ n ih => rw [List.replicate_succ', List.flatten_append, ih, List.range_succ]; simp [lastD]
  rw [e0]
  have upd : ∀ (g : Nat → Option Nat) (t k : Nat), (((List.range b.n).map fun x => lastD (g x)).map Cell.im).set t (.im (.int (k : Nat))) = ((List.range b.n).map fun x => lastD (if x = t then some k else g x)).map Cell.im := by
    intro g t k
    apply List.ext_getElem
    · simp
    · intro i h1 h2
      simp [List.getElem_set]
      by_cases e : t = i
      · subst e; simp [lastD]
      · have : ¬ i = t := fun z => e z.symm
        simp [e, this]
  refine forGo_pre (fun p : Deed × Nat => PyData.tuple [.int (p.2 : Nat), encDeed p.1]) (fun acc p => acc ++ [p]) (fun (pre : List (Deed × Nat)) γ => ∃ g c3 c4 c5, γ = [.im (sidesD b), .im (encS s), .ow (((List.range b.n).map fun x => lastD (g x)).map .im), c3, c4, c5] ∧ ∀ x, x < b.n → (g x).map (fun k => (s.getD k (false, 0)).1) = sem b (pre.map (·.1)) x none ∧ ∀ k, g x = some k → k < s.length) [] s.zipIdx _ ⟨fun _ => none, _, _, _, rfl, fun x hx => ⟨rfl, fun k z => nomatch z⟩⟩ ?_ ?_
  · rintro pre ⟨d, k⟩ rest e γ ⟨g, c3, c4, c5, rfl, hg⟩ nx hnx
    rw [fold_snoc, List.nil_append] at hg hnx
    have hk : s[k]? = some d := by
      have m : (d, k) ∈ s.zipIdx := by rw [e]; simp
      exact List.mem_zipIdx_iff_getElem?.mp m
    have hkl : k < s.length := (List.getElem?_eq_some_iff.mp hk).1
    have hd : d.2 < b.n := hs d (List.mem_of_getElem? hk)
    have hgk : s.getD k (false, 0) = d := by rw [List.getD_eq_getElem?_getD, hk]; rfl
    have inner : ∀ (E : XEnds) (l : List Nat) c5, (∀ t ∈ l, t < b.n) → (∀ c5, E.nx [.im (sidesD b), .im (encS s), .ow (((List.range b.n).map fun x => lastD (if x ∈ l then some k else g x)).map .im), .im (.int (k : Nat)), .im (encDeed d), c5]) →
        forGo (gNm 5) (sSetIx 2 (xVarR 5) (xVar 3)) E (nats l) [.im (sidesD b), .im (encS s), .ow (((List.range b.n).map fun x => lastD (g x)).map .im), .im (.int (k : Nat)), .im (encDeed d), c5] := by
      intro E l c5 hl hE
      refine forGo_fold encN (fun (g : Nat → Option Nat) t => fun x => if x = t then some k else g x) (fun g γ => ∃ c5, γ = [.im (sidesD b), .im (encS s), .ow (((List.range b.n).map fun x => lastD (g x)).map .im), .im (.int (k : Nat)), .im (encDeed d), c5]) g l _ ⟨_, rfl⟩ ?_ ?_
      · rintro t ht g γ ⟨c5, rfl⟩ nx hnx
        simp [encN, -List.map_map]
        refine ⟨t, ixN_nat (by simpa using hl t ht), ?_⟩
        rw [upd]
        exact hnx _ ⟨_, rfl⟩
      · rintro γ ⟨c5, rfl⟩
        have ef : ∀ (l : List Nat) (g : Nat → Option Nat) x, (l.foldl (fun (g : Nat → Option Nat) t => fun x => if x = t then some k else g x) g) x = if x ∈ l then some k else g x := by
          intro l
          induction l with
          | nil => intro g x; simp
          | cons t l ih =>
            intro g x
            rw [List.foldl_cons, ih]
            by_cases m : x ∈ l
            · simp [m]
            · by_cases e : x = t
              · simp [e]
              · simp [m, e]
        have := hE c5
        rw [show (fun x => lastD (if x ∈ l then some k else g x)) = fun x => lastD ((l.foldl (fun (g : Nat → Option Nat) t => fun x => if x = t then some k else g x) g) x) from by funext x; rw [ef]] at this
        exact this
    have done_ : ∀ l : List Nat, (∀ x, x ∈ l ↔ x < b.n ∧ rch b d x = true) → ∀ c3 c4 c5, nx [.im (sidesD b), .im (encS s), .ow (((List.range b.n).map fun x => lastD (if x ∈ l then some k else g x)).map .im), c3, c4, c5] := by
      intro l hm c3 c4 c5
      refine hnx _ ⟨fun x => if x ∈ l then some k else g x, c3, c4, c5, rfl, fun x hx => ?_⟩
      rw [List.map_append, sem_app]
      simp only [List.map_cons, List.map_nil, sem_cons, sem_nil]
      by_cases m : x ∈ l
      · have hr := ((hm x).mp m).2
        rw [if_pos m, if_pos hr]
        simp only [Option.map_some, hgk]
        exact ⟨trivial, fun k' z => by cases z; exact hkl⟩
      · have hr : ¬ rch b d x = true := fun z => m ((hm x).mpr ⟨hx, z⟩)
        rw [if_neg m, if_neg hr]
        exact hg x hx
    obtain ⟨w, y⟩ := d
    cases w
    · simp [encDeed, wd, sidesD, lotG_at hd, -List.map_map]
      exact inner _ (lotL b.n (upR b y)) c5 (fun t ht => (mem_lotL.mp ht).1) fun c5 => done_ _ (fun x => by rw [mem_lotL, rch_f]) _ _ _
    · simp [encDeed, wd, sidesD, lotG_at hd, -List.map_map]
      exact inner _ (lotL b.n (dnR b y)) c5 (fun t ht => (mem_lotL.mp ht).1) fun c5 => done_ _ (fun x => by rw [mem_lotL, rch_t]) _ _ _
  · rintro γ ⟨g, c3, c4, c5, rfl, hg⟩
    rw [fold_snoc, List.nil_append] at hg
    have ez : s.zipIdx.map (·.1) = s := by simp
    rw [ez] at hg
    simp [-List.map_map]
    exact h g hg
theorem deed_at {s : List Deed} {k : Nat} (h : k < s.length) : atI (s.map encDeed) (k : Int) = some (encDeed (s.getD k (false, 0))) := by
  rw [DL.atI_nat (by simpa using h), List.getD_eq_getElem?_getD]
  simp [h]
def S_lcouple : FS := fun cs K' => ∃ (b : Hl) (s : List Deed), cs = [.im (sidesD b), .im (encS s)] ∧ b.ok ∧ InS b.n s ∧ K' (.im (encC b s))
theorem m_lcouple : Main (T__law_couple S_lasts) N__law_couple S_lcouple := by
  rintro cs K' ⟨b, s, rfl, ok, hs, h⟩
  simp [T__law_couple]
  refine ⟨b, s, rfl, ok, hs, fun g hg => ?_⟩
  have ee : enumD ((List.range b.n).map fun x => lastD (g x)) = (List.range b.n).map fun x => .tuple [.int (x : Nat), lastD (g x)] := by
    rw [enumD_map]
    apply List.ext_getElem
    · simp
    · intro i h1 h2
      simp
  simp [ee, -List.map_map]
  refine compGo_fm (fun x : Nat => PyData.tuple [.int (x : Nat), lastD (g x)]) (wetS b s) encN (List.range b.n) (fun x hx K1 K0 k1 k0 => ?_) ?_
  · obtain ⟨e1, e2⟩ := hg x (by simpa using hx)
    unfold wetS at k1 k0
    rw [← e1] at k1 k0
    cases eg : g x with
    | none =>
      rw [eg] at k0
      simp [lastD]
      exact k0 rfl
    | some k =>
      rw [eg] at k1 k0
      have hk := e2 k eg
      simp only [Option.map_some, Option.getD_some] at k1 k0
      simp [lastD, encS, deed_at hk, -List.getD_eq_getElem?_getD]
      generalize s.getD k (false, 0) = d at k1 k0 ⊢
      obtain ⟨w, y⟩ := d
      cases w
      · simp [encDeed, wd]; exact k0 rfl
      · simp [encDeed, wd]; exact k1 rfl
  refine compGo_fm (fun x : Nat => PyData.tuple [.int (x : Nat), lastD (g x)]) (dryS b s) encN (List.range b.n) (fun x hx K1 K0 k1 k0 => ?_) ?_
  · obtain ⟨e1, e2⟩ := hg x (by simpa using hx)
    unfold dryS at k1 k0
    rw [← e1] at k1 k0
    cases eg : g x with
    | none =>
      rw [eg] at k0
      simp [lastD]
      exact k0 rfl
    | some k =>
      rw [eg] at k1 k0
      have hk := e2 k eg
      simp only [Option.map_some, Option.getD_some] at k1 k0
      simp [lastD, encS, deed_at hk, -List.getD_eq_getElem?_getD]
      generalize s.getD k (false, 0) = d at k1 k0 ⊢
      obtain ⟨w, y⟩ := d
      cases w
      · simp [encDeed, wd]; exact k1 rfl
      · simp [encDeed, wd]; exact k0 rfl
  exact ⟨by simp, _, seqF_o, by simp, _, seqF_o, h⟩
def S_lscript : FS := fun cs K' => ∃ (n m : Nat), cs = [.deck, .im (.int (n : Nat)), .im (.int (m : Nat))] ∧ 1 ≤ n ∧ n ≤ 10 ∧ m ≤ 20 ∧ ∀ s : List Deed, InS n s → s.length ≤ m → K' (.im (encS s))
theorem m_lscript : Main (T__law_script S_draw S_pick) N__law_script S_lscript := by
  rintro cs K' ⟨n, m, rfl, n0, n1, m1, h⟩
  simp [T__law_script]
  refine draw_nat n0 (by omega) fun r hr => ?_
  rw [show ((m : Int) + 1) = ((m + 1 : Nat) : Int) by omega]
  refine draw_nat (by omega) (by omega) fun q hq => ?_
  refine ⟨(q : Nat), rfl, by omega, by omega, forGo_pre encN (fun p a => p ++ [a]) (fun (p : List Nat) γ => ∃ (s : List Deed) (r : Nat) (c5 : Cell), γ = [.deck, .im (.int n), .im (.int m), .ow ((s.map encDeed).map .im), .im (.int (r : Nat)), c5] ∧ InS n s ∧ r < n ∧ s.length = p.length) [] (List.range q) _ ⟨[], r, _, rfl, (fun _ z => nomatch z), hr, rfl⟩ ?_ ?_⟩
  · rintro pre i rest e γ ⟨s, r, c5, rfl, g1, g2, g3⟩ nx hnx
    rw [fold_snoc, List.nil_append] at g3
    rw [fold_snoc, List.nil_append] at hnx
    have hl : pre.length < q := by have := congrArg List.length e; simp at this; omega
    have pick : ∀ P : Cell → Prop, (∀ w : Bool, P (.im (.str (wd w)))) → S_pick [.deck, .ow [.im (.str (Str.ofString "pour")), .im (.str (Str.ofString "open"))]] P := fun P hP =>
      ⟨[.str (Str.ofString "pour"), .str (Str.ofString "open")], .inl rfl, by simp, by simp, fun d hd => by
        simp at hd
        rcases hd with rfl | rfl
        · exact hP true
        · exact hP false⟩
    have fin : ∀ (w : Bool) (r : Nat), r < n → nx [.deck, .im (.int n), .im (.int m), .ow (s.map (Cell.im ∘ encDeed) ++ [.im (.tuple [.str (wd w), .int (r : Nat)])]), .im (.int (r : Nat)), .im (.int (i : Nat))] := fun w r hr => by
      have := hnx _ ⟨s ++ [(w, r)], r, .im (.int (i : Nat)), rfl, fun d m => by
        rcases List.mem_append.mp m with m | m
        · exact g1 d m
        · rw [List.mem_singleton.mp m]; exact hr, hr, by simp [g3]⟩
      simpa [encDeed] using this
    simp [encN]
    refine draw_nat (k := 4) (by omega) (by omega) fun z hz => ⟨z, rfl, ?_⟩
    split
    · refine draw_nat n0 (by omega) fun r hr => pick _ fun w => ⟨rfl, _, rfl, by simp, lt_size (by omega), fin w r hr⟩
    · exact pick _ fun w => ⟨_, rfl, by simp, lt_size (by omega), fin w r g2⟩
  · rintro γ ⟨s, r, c5, rfl, g1, g2, g3⟩
    rw [fold_snoc, List.nil_append, List.length_range] at g3
    simp [-List.map_map]
    exact h s g1 (by omega)
def S_llot : FS := fun cs K' => ∃ n : Nat, cs = [.deck, .im (.int (n : Nat))] ∧ n ≤ 10 ∧ ∀ S : Nat → Bool, K' (.im (encL (lotL n S)))
theorem m_llot : Main (T__law_lot S_pick S_draw) N__law_lot S_llot := by
  rintro cs K' ⟨n, rfl, n1, h⟩
  simp [T__law_lot]
  refine ⟨[.int 2, .int 3, .int 2, .int 1], .inl rfl, by simp, by simp, fun d hd => ?_⟩
  obtain ⟨k, hk, rfl⟩ : ∃ k : Nat, (0 < k ∧ k ≤ 3) ∧ d = .int (k : Nat) := by
    simp at hd
    rcases hd with rfl | rfl | rfl | rfl
    · exact ⟨2, by omega, rfl⟩
    · exact ⟨3, by omega, rfl⟩
    · exact ⟨2, by omega, rfl⟩
    · exact ⟨1, by omega, rfl⟩
  refine ⟨by omega, compGo_sub encN encN (fun _ => True) (fun _ => False) (List.range n) (fun b hb K1 K0 k1 k0 => ?_) fun ys y1 y2 _ => ?_⟩
  · simp [encN]
    refine draw_nat hk.1 (by omega) fun r hr => ?_
    simp
    split
    · exact k1 trivial
    · exact k0 fun z => z
  · have e : ys = lotL n fun a => decide (a ∈ ys) := lotL_of (List.pairwise_lt_range.sublist y1) fun a => by
      simp
      intro m
      have := y1.subset m
      simpa using this
    have := h fun a => decide (a ∈ ys)
    rw [← e] at this
    exact ⟨_, seqF_o, this⟩
def S_lcarried : FS := fun cs K' => ∃ (n m : Nat) (f : Nat → Nat) (S : Nat → Bool) (c : Cell), cs = [.im (encM n f), c] ∧ (c = .im (encL (lotL m S)) ∨ c = .im (.list (nats (lotL m S)))) ∧ (∀ x, x < n → f x < m) ∧ K' (.im (encL (lotL n fun x => S (f x))))
theorem m_lcarried : Main T__law_carried N__law_carried S_lcarried := by
  rintro cs K' ⟨n, m, f, S, c, rfl, hc, hf, h⟩
  have key : compGo (gTp 2 (gC (gNm 2) (gC (gNm 3) gN0))) (tBl (x2 (cIn false) (xVarR 3) (xVarR 1))) (xVar 2) [.im (encM n f), c, .un, .un] (fun c => ∃ ds, seqF c = some ds ∧ K' (.im (.tuple ds))) ((List.range n).map fun x => PyData.tuple [.int (x : Nat), .int (f x : Nat)]) [] := by
    refine compGo_fm (fun x : Nat => PyData.tuple [.int (x : Nat), .int (f x : Nat)]) (fun x => S (f x)) encN (List.range n) (fun x hx K1 K0 k1 k0 => ?_) ⟨_, seqF_o, h⟩
    have hx' : x < n := by simpa using hx
    have hfx := hf x hx'
    rcases hc with rfl | rfl
    · simp [encL, show (List.map (fun x : Nat => PyData.int (x : Nat)) (lotL m S)) = nats (lotL m S) from rfl, mem_lotL, hfx]
      cases e : S (f x)
      · simpa using k0 e
      · simpa [encN] using k1 e
    · simp [mem_lotL, hfx]
      cases e : S (f x)
      · simpa using k0 e
      · simpa [encN] using k1 e
  simp only [T__law_carried]
  simp [encM, encL, enum_map, -List.map_map]
  exact key
end L87
set_option maxHeartbeats 1000000
namespace L87
open PySem PySem.Spec PyProof.Rows L2 DL
theorem list_fun (ys : List Nat) : ys = (List.range ys.length).map fun i => ys.getD i 0 := by
  apply List.ext_getElem
  · simp
  · intro i h1 h2
    simp [List.getD_eq_getElem?_getD, h1]
theorem endsOf_t (b : Hl) (S : Nat → Bool) : endsOf b true S = lotL b.n (endB b.n (upR b) (dnR b) S) := rfl
theorem endsOf_f (b : Hl) (S : Nat → Bool) : endsOf b false S = lotL b.n (endB b.n (dnR b) (upR b) S) := rfl
def S_ldue : FS := fun cs K' => ∃ (b g : Hl) (f : Nat → Nat) (d : Deed), cs = [.im (encH b), .im (encH g), .im (encM b.n f), .im (encDeed d)] ∧ b.ok ∧ g.ok ∧ MapOk b g f ∧ d.2 < g.n ∧ K' (.im (encS (due b g f d)))
theorem m_ldue : Main (T__law_due S_lcarried S_sides S_outer) N__law_due S_ldue := by
  rintro cs K' ⟨b, g, f, ⟨w, p⟩, rfl, ok, ok2, mo, hd, h⟩
  have t1 := ok.top
  have hd' : p < g.n := hd
  have fin : ∀ (w : Bool) (r : Cell) (S : Nat → Bool), K' (.im (.tuple ((endsOf b w S).map fun x => encDeed (w, x)))) → compGo (gNm 6) uYes (xTup (xCons (xFlat (xIx (xVarR 3) (xC (.int 0)))) (xCons (xVar 6) xNil))) [.im (encH b), .im (encH g), .im (encM b.n f), .im (encDeed (w, p)), r, .im (encL (lotL b.n S)), .un] (fun c => ∃ ds, seqF c = some ds ∧ K' (.im (.tuple ds))) ((endsOf b w S).map encN) [] := by
    intro w r S hK
    refine compGo_map encN (fun x => encDeed (w, x)) (endsOf b w S) (fun x hx K1 K0 hk => ?_) ⟨_, seqF_o, hK⟩
    simp [encDeed, encN, toDs, toD]
    simpa [encDeed] using hk
  cases w
  · simp [T__law_due, encDeed, wd]
    refine ⟨g, rfl, ok2, ?_⟩
    simp [sidesD, lotG_at hd']
    refine ⟨b.n, g.n, f, upR g p, _, rfl, .inr rfl, mo.lt, b, rfl, ok, ?_⟩
    simp [sidesD]
    refine ⟨b.n, dnR b, _, rfl, t1, ?_⟩
    simp [encL, -List.map_map]
    have := fin false (.im (.int 1)) (fun x => upR g p (f x)) (by simpa [encS, due, endsOf, rch_f, Function.comp_def] using h)
    exact this
  · simp [T__law_due, encDeed, wd]
    refine ⟨g, rfl, ok2, ?_⟩
    simp [sidesD, lotG_at hd']
    refine ⟨b.n, g.n, f, dnR g p, _, rfl, .inr rfl, mo.lt, b, rfl, ok, ?_⟩
    simp [sidesD]
    refine ⟨b.n, upR b, _, rfl, t1, ?_⟩
    simp [encL, -List.map_map]
    have := fin true (.im (.int 0)) (fun x => dnR g p (f x)) (by simpa [encS, due, endsOf, rch_t, Function.comp_def] using h)
    exact this
def S_told : FS := fun cs K' => ∃ (b : Hl) (s : List Deed), cs = [.im (encH b), .im (encS s)] ∧ b.ok ∧ InS b.n s ∧ K' (.im (encC b s))
theorem m_told : Main (T__law_told_couple S_couple_of S_lcouple S_sides) N__law_told_couple S_told := by
  rintro cs K' ⟨b, s, rfl, ok, hs, h⟩
  have e0 : ∀ K : Cell → Prop, (∃ d, toD (.im (encS s)) = some d ∧ True) := fun _ => ⟨_, rfl, trivial⟩
  simp [T__law_told_couple, encS]
  split
  · exact ⟨b, s, rfl, ok, hs, h⟩
  · exact ⟨b, rfl, ok, b, s, rfl, ok, hs, h⟩
def S_led : FS := fun cs K' => ∃ (one : Hl) (n : Nat), cs = [.deck, .im (encH one), .im (.int (n : Nat))] ∧ one.ok ∧ 1 ≤ n ∧ n ≤ 10 ∧ ∀ (h : Hl) (f : Nat → Nat), h.ok → h.n = n → MapOk one h f → K' (.im (.tuple [encH h, encM one.n f]))
theorem m_led : Main (T__law_led S_draw S_lclosed) N__law_led S_led := by
  rintro cs K' ⟨one, n, rfl, ok, n0, n1, h⟩
  have t1 := ok.top
  simp [T__law_led, encH, -List.map_map]
  refine ⟨by omega, compGo_all encN encN (fun y => y < n) (List.range one.n) (fun x hx K1 K0 k1 => ?_) fun ys hy hP => ?_⟩
  · simp
    exact draw_nat n0 (by omega) fun r hr => k1 r hr
  have hyl : ys.length = one.n := by simpa using hy
  generalize hf : (fun i => ys.getD i 0) = f
  have ey : ys = (List.range one.n).map f := by rw [← hf, ← hyl]; exact list_fun ys
  have flt : ∀ a, a < one.n → f a < n := fun a ha => hP _ (by rw [ey]; exact List.mem_map.mpr ⟨a, by simpa using ha, rfl⟩)
  have at_ : ∀ a, a < one.n → atI (ys.map encN) (a : Int) = some (.int (f a : Nat)) := fun a ha => by rw [ey]; exact mapL_at f ha
  refine ⟨_, seqF_o, ?_⟩
  refine compGo_map encP (fun p => encP (f p.1, f p.2)) (prs one) (fun p hp K1 K0 hk => ?_) ⟨_, rfl, ?_⟩
  · obtain ⟨p1, p2, _, _⟩ := mem_prs.mp hp
    simp [encP, at_ _ p1, at_ _ p2, toDs, toD]
    simpa [encP] using hk
  refine draw_nat (k := 4) (by omega) (by omega) fun q hq => ⟨q, rfl, by omega, by omega, ?_⟩
  refine compGo_all encN encP (fun p : Nat × Nat => p.1 < n ∧ p.2 < n) (List.range q) (fun x hx K1 K0 k1 => ?_) fun zs hz hzP => ?_
  · simp
    refine draw_nat n0 (by omega) fun r hr => ?_
    refine draw_nat n0 (by omega) fun r2 hr2 => ?_
    simp [toDs, toD]
    exact k1 (r, r2) ⟨hr, hr2⟩
  simp at hz
  have hpl := prs_len one
  have hp2 : one.n * one.n ≤ 10 * 10 := Nat.mul_le_mul t1 t1
  generalize eqs : (prs one).map (fun p => (f p.1, f p.2)) ++ zs = qs
  have ecs : ((prs one).map fun p => encP (f p.1, f p.2)).map Cell.im ++ (zs.map encP).map .im = (qs.map encP).map .im := by rw [← eqs]; simp [Function.comp_def]
  refine ⟨_, rfl, by simp only [List.length_map]; exact le_size (by omega), qs.map encP, by rw [ecs]; exact seqF_o, ?_⟩
  refine compGo_fm encP (fun p => decide (p.1 ≠ p.2)) encP qs (fun p hp K1 K0 k1 k0 => ?_) ?_
  · simp [encP, toDs, toD]
    by_cases e : p.1 = p.2
    · exact .inl ⟨by omega, k0 (by simp [e])⟩
    · refine .inr ⟨by omega, ?_⟩
      have := k1 (by simp [e])
      simpa [encP] using this
  · refine ⟨n, qs.filter fun p => decide (p.1 ≠ p.2), _, rfl, .inl rfl, n0, n1, fun p hp => ?_, fun hh hok hn hle _ => ?_⟩
    · have := (List.mem_filter.mp hp).1
      rw [← eqs] at this
      rcases List.mem_append.mp this with m | m
      · obtain ⟨r, hr, rfl⟩ := List.mem_map.mp m
        obtain ⟨p1, p2, _, _⟩ := mem_prs.mp hr
        exact ⟨flt _ p1, flt _ p2⟩
      · exact hzP p m
    · have mo : MapOk one hh f := ⟨fun a ha => by rw [hn]; exact flt a ha, fun a b ha hb l => by
        by_cases e : f a = f b
        · rw [e]; exact hok.refl _ (by rw [hn]; exact flt b hb)
        · have ne : a ≠ b := fun z => e (by rw [z])
          exact hle (f a, f b) (List.mem_filter.mpr ⟨by rw [← eqs]; exact List.mem_append_left _ (List.mem_map.mpr ⟨(a, b), mem_prs.mpr ⟨ha, hb, ne, l⟩, rfl⟩), by simpa using e⟩)⟩
      refine ⟨_, rfl, by simp, ?_⟩
      have := h hh f hok hn mo
      simpa [encM, encL, ey, encN, Function.comp_def] using this
end L87
set_option maxHeartbeats 1000000
namespace L87
open PySem PySem.Spec PyProof.Rows L2 DL
def g_0 (S__law_draw : FS) (S__law_sides : FS) : XS := (sPar [3, 4, 5] (xCons (xCB cTup (xCons (xLC (xRange1 (xCons (xVarR 2) xNil)) (gNm 9) uYes (xCall S__law_draw (xCons (xVar 0) (xCons (xFlat (xIx (xVarR 1) (xC (.int 0)))) xNil))) [9]) xNil)) (xCons (xFlat (xIx (xCall S__law_sides (xCons (xVar 1) xNil)) (xC (.int 1)))) (xCons (x2 cAdd (xCall S__law_draw (xCons (xVar 0) (xCons (xC (.int 3)) xNil))) (xC (.int 1))) xNil))))
def g_1 : XS := (sSet 6 (xLst xNil))
def g_2 (S__law_draw : FS) : XS := (sFor (xRange1 (xCons (xVarR 2) xNil)) (gNm 7) (sSeq (sSet 8 (xLC (xRange1 (xCons (xVarR 2) xNil)) (gNm 10) (tAndX (tBl (x2 cNe (xVarR 10) (xVarR 7))) (tBl (x2 (cIn false) (xIx (xVarR 3) (xVarR 10)) (xIx (xVarR 4) (xIx (xVarR 3) (xVarR 7)))))) (xVar 10) [10])) (sExt 6 (xLC (xSeq (xVarR 8)) (gNm 10) (tBl (x2 cEq (xCall S__law_draw (xCons (xVar 0) (xCons (xVar 5) xNil))) (xC (.int 0)))) (xTup (xCons (xVar 7) (xCons (xVar 10) xNil))) [10]))))
def g_3 (S__law_closed : FS) : XS := (sFz [6] (sRet (xTup (xCons (xCall S__law_closed (xCons (xVar 2) (xCons (xVar 6) xNil))) (xCons (xVar 3) xNil)))))
theorem g__eq (S__law_draw : FS) (S__law_sides : FS) (S__law_closed : FS) : T__law_leading S__law_draw S__law_sides S__law_closed = (sSeq (g_0 S__law_draw S__law_sides) (sSeq (g_1) (sSeq (g_2 S__law_draw) (g_3 S__law_closed)))) := rfl
def upD (b : Hl) : D := .list (rowsD b.n fun x => lotL b.n (upR b x))
theorem g2_ok {E : XEnds} {other : Hl} {n sm : Nat} {f : Nat → Nat} {c7 c8 c9 c10 : Cell} (ok : other.ok) (n1 : n ≤ 10) (s0 : 0 < sm) (s1 : sm ≤ 10) (hf : ∀ a, a < n → f a < other.n)
    (h : ∀ (ps : List (Nat × Nat)) c7 c8, (∀ p ∈ ps, p.1 < n ∧ p.2 < n ∧ other.le (f p.1) (f p.2) = true) → E.nx [.deck, .im (encH other), .im (.int n), .im (encM n f), .im (upD other), .im (.int (sm : Nat)), .ow ((ps.map encP).map .im), c7, c8, c9, c10]) :
    g_2 S_draw E [.deck, .im (encH other), .im (.int n), .im (encM n f), .im (upD other), .im (.int (sm : Nat)), .ow [], c7, c8, c9, c10] := by
  have at_ : ∀ a, a < n → atI (nats ((List.range n).map f)) (a : Int) = some (.int (f a : Nat)) := fun a ha => mapL_at f ha
  have eM : encM n f = .tuple (nats ((List.range n).map f)) := rfl
  simp [g_2]
  refine ⟨by omega, forGo_pre encN (fun p a => p ++ [a]) (fun (p : List Nat) γ => ∃ (ps : List (Nat × Nat)) (c7 c8 : Cell), γ = [.deck, .im (encH other), .im (.int n), .im (encM n f), .im (upD other), .im (.int (sm : Nat)), .ow ((ps.map encP).map .im), c7, c8, c9, c10] ∧ (∀ p ∈ ps, p.1 < n ∧ p.2 < n ∧ other.le (f p.1) (f p.2) = true) ∧ ps.length ≤ 10 * p.length) [] (List.range n) _ ⟨[], _, _, rfl, (fun _ z => nomatch z), by simp⟩ ?_ ?_⟩
  · rintro pre a rest e γ ⟨ps, c7, c8, rfl, g1, g2⟩ nx hnx
    rw [fold_snoc, List.nil_append] at g2
    rw [fold_snoc, List.nil_append] at hnx
    have hpl : pre.length < n := by have := congrArg List.length e; simp at this; omega
    have ha : a < n := by
      have : a ∈ List.range n := by rw [e]; simp
      simpa using this
    simp [encN]
    refine ⟨by omega, compGo_fm encN (fun b => decide (b ≠ a) && other.le (f a) (f b)) encN (List.range n) (fun b hb K1 K0 k1 k0 => ?_) ?_⟩
    · have hb' : b < n := by simpa using hb
      have hm : (f b ∈ lotL other.n (upR other (f a))) ↔ other.le (f a) (f b) = true := by rw [mem_lotL]; exact ⟨fun z => z.2, fun z => ⟨hf b hb', z⟩⟩
      simp [encN, eM, at_ a ha, at_ b hb', upD, lotG_at (hf a ha)]
      by_cases e2 : b = a
      · exact .inl ⟨by omega, k0 (by simp [e2])⟩
      · refine .inr ⟨by omega, ?_⟩
        by_cases e3 : other.le (f a) (f b) = true
        · rw [if_pos (hm.mpr e3)]
          simpa [encN] using k1 (by simp [e2, e3])
        · rw [if_neg fun z => e3 (hm.mp z)]
          exact k0 (by simp [e3])
    · refine ⟨by simp, _, seqF_o, compGo_sub encN (fun b => encP (a, b)) (fun _ => True) (fun _ => False) _ (fun b hb K1 K0 k1 k0 => ?_) fun ys y1 y2 _ => ?_⟩
      · simp [encN]
        refine draw_nat s0 (by omega) fun r hr => ?_
        simp [toDs, toD]
        split
        · simpa [encP] using k1 trivial
        · exact k0 fun z => z
      · have hyl : ys.length ≤ n := by
          have h1 := y1.length_le
          have h2 := List.length_filter_le (fun b => decide (b ≠ a) && other.le (f a) (f b)) (List.range n)
          rw [List.length_range] at h2
          omega
        refine ⟨_, rfl, by simp only [List.length_map]; exact le_size (by omega), ?_⟩
        have := hnx _ ⟨ps ++ ys.map fun b => (a, b), .im (.int (a : Nat)), .ow ((((List.range n).filter fun b => decide (b ≠ a) && other.le (f a) (f b)).map encN).map .im), rfl, fun p m => ?_, by simp; omega⟩
        · simpa [Function.comp_def, encN] using this
        · rcases List.mem_append.mp m with m | m
          · exact g1 p m
          · obtain ⟨b, hb, rfl⟩ := List.mem_map.mp m
            have := List.mem_filter.mp (y1.subset hb)
            simp at this
            exact ⟨ha, this.1, this.2.2⟩
  · rintro γ ⟨ps, c7, c8, rfl, g1, g2⟩
    exact h ps c7 c8 g1
def S_leading : FS := fun cs K' => ∃ (other : Hl) (n : Nat), cs = [.deck, .im (encH other), .im (.int (n : Nat))] ∧ other.ok ∧ 1 ≤ n ∧ n ≤ 10 ∧ ∀ (h : Hl) (f : Nat → Nat), h.ok → h.n = n → MapOk h other f → K' (.im (.tuple [encH h, encM n f]))
theorem m_leading : Main (T__law_leading S_draw S_sides S_lclosed) N__law_leading S_leading := by
  rintro cs K' ⟨other, n, rfl, ok, n0, n1, h⟩
  have t1 := ok.top
  have t0 := ok.pos
  rw [g__eq]
  show sSeq _ _ _ [.deck, .im (encH other), .im (.int n), .un, .un, .un, .un, .un, .un, .un, .un]
  rw [sSeq]
  simp [g_0, -List.map_map]
  refine ⟨by omega, compGo_all encN encN (fun y => y < other.n) (List.range n) (fun x hx K1 K0 k1 => ?_) fun ys hy hP => ?_⟩
  · simp [encH]
    exact draw_nat t0 (by omega) fun r hr => k1 r hr
  have hyl : ys.length = n := by simpa using hy
  generalize hf : (fun i => ys.getD i 0) = f
  have ey : ys = (List.range n).map f := by rw [← hf, ← hyl]; exact list_fun ys
  have flt : ∀ a, a < n → f a < other.n := fun a ha => hP _ (by rw [ey]; exact List.mem_map.mpr ⟨a, by simpa using ha, rfl⟩)
  refine ⟨_, seqF_o, other, rfl, ok, ?_⟩
  simp [sidesD, -List.map_map]
  refine draw_nat (k := 3) (by omega) (by omega) fun r hr => ?_
  simp [g_1, -List.map_map]
  have e1 : (PyData.tuple (ys.map encN)) = encM n f := by rw [ey]; rfl
  rw [e1, show ((r : Int) + 1) = ((r + 1 : Nat) : Int) by omega]
  refine g2_ok ok n1 (by omega) (by omega) flt fun ps c7 c8 hps => ?_
  simp only [g_3, sFz, fzAll]
  show sRet _ _ [.deck, .im (encH other), .im (.int n), .im (encM n f), .im (upD other), .im (.int ((r + 1 : Nat) : Nat)), frz (.ow ((ps.map encP).map .im)), c7, c8, .un, .un]
  rw [frz_ow]
  simp [-List.map_map]
  refine ⟨n, ps, _, rfl, .inr rfl, n0, n1, fun p m => ⟨(hps p m).1, (hps p m).2.1⟩, fun hh hok hn hle htr => ?_⟩
  have mo : MapOk hh other f := ⟨fun a ha => flt a (by omega), fun a b ha hb l => by
    have := htr a b (by omega) l (fun x y => x = y ∨ (x < n ∧ y < n ∧ other.le (f x) (f y) = true)) (fun _ => .inl rfl) (fun x y z h1 h2 => by
      rcases h1 with rfl | ⟨a1, a2, a3⟩
      · exact h2
      · rcases h2 with rfl | ⟨b1, b2, b3⟩
        · exact .inr ⟨a1, a2, a3⟩
        · exact .inr ⟨a1, b2, ok.trans _ _ _ (flt x a1) (flt y a2) (flt z b2) a3 b3⟩) fun p m => .inr (hps p m)
    rcases this with rfl | ⟨_, _, z⟩
    · exact ok.refl _ (flt a (by omega))
    · exact z⟩
  simp [toDs, toD]
  exact h hh f hok hn mo
def S_mapped : FS := fun cs K' => ∃ most : Nat, cs = [.deck, .im (.int (most : Nat))] ∧ 1 ≤ most ∧ most ≤ 10 ∧ ∀ (b g : Hl) (f : Nat → Nat), b.ok → g.ok → MapOk b g f → K' (.im (.tuple [encH b, encH g, encM b.n f]))
theorem m_mapped : Main (T__law_mapped S_draw S_hill S_led S_leading) N__law_mapped S_mapped := by
  rintro cs K' ⟨most, rfl, m0, m1, h⟩
  simp [T__law_mapped]
  refine draw_nat m0 (by omega) fun r hr => ?_
  simp
  refine ⟨most, rfl, m0, m1, fun b hb hbn => ?_⟩
  simp
  refine draw_nat (k := 2) (by omega) (by omega) fun z hz => ?_
  simp
  rw [show (1 + (r : Int)) = ((r + 1 : Nat) : Int) by omega]
  split
  · refine ⟨b, r + 1, rfl, hb, by omega, by omega, fun g f hg hgn mo => ?_⟩
    simp [toDs, toD]
    exact h b g f hb hg mo
  · refine ⟨b, r + 1, rfl, hb, by omega, by omega, fun g f hg hgn mo => ?_⟩
    simp [toDs, toD]
    have := h g b f hg hb mo
    rw [hgn] at this
    exact this
end L87
set_option maxHeartbeats 1000000
namespace L87
open PySem PySem.Spec PyProof.Rows L2 DL
def x_0 : XS := (sSet 4 (xTup xNil))
def x_1 (S__law_due : FS) (S_carried_deed : FS) (S_reach : FS) (S__law_carried : FS) : XS := (sFor (xSeq (xVar 3)) (gNm 5) (sSeq (sSet 6 (xCall S__law_due (xCons (xVar 0) (xCons (xVar 1) (xCons (xVar 2) (xCons (xVar 5) xNil)))))) (sSeq (sSet 7 (xLst (xCons (xCall S_carried_deed (xCons (xVar 0) (xCons (xVar 1) (xCons (xVar 2) (xCons (xVar 5) xNil))))) (xCons (xCallK S_carried_deed 4 [3, 2, 1, 0] (xCons (xVar 5) (xCons (xVar 2) (xCons (xVar 1) (xCons (xVar 0) xNil))))) xNil)))) (sSeq (sIf (tBl (x2 cNeS (xCB cRepr (xCons (xVarR 7) xNil)) (xCB cRepr (xCons (x2 cRep (xLst (xCons (xVar 6) xNil)) (xC (.int 2))) xNil)))) (sRet (xC (.bool false))) sNext) (sSeq (sSet 8 (xLst xNil)) (sSeq (sFor (xSeq (xVar 6)) (gNm 9) (sExt 8 (xCB cLst (xCons (xCall S_reach (xCons (xVar 0) (xCons (xVar 9) xNil))) xNil)))) (sSeq (sIf (tBl (x2 cNe (xSortSet (xVarR 8)) (xCB cLst (xCons (xCall S__law_carried (xCons (xVar 2) (xCons (xCall S_reach (xCons (xVar 1) (xCons (xVar 5) xNil))) xNil))) xNil)))) (sRet (xC (.bool false))) sNext) (sSet 4 (x2 cAdd (xVarR 4) (xVarR 6))))))))))
def x_2 (S_carried_script : FS) : XS := (sSet 7 (xLst (xCons (xCall S_carried_script (xCons (xVar 0) (xCons (xVar 1) (xCons (xVar 2) (xCons (xVar 3) xNil))))) (xCons (xCallK S_carried_script 4 [2, 3, 1, 0] (xCons (xVar 3) (xCons (xVar 2) (xCons (xVar 0) (xCons (xVar 1) xNil))))) xNil))))
def x_3 : XS := (sRet (x2 cEqS (xCB cRepr (xCons (xVarR 7) xNil)) (xCB cRepr (xCons (x2 cRep (xLst (xCons (xVar 4) xNil)) (xC (.int 2))) xNil))))
theorem x__eq (S__law_due : FS) (S_carried_deed : FS) (S_reach : FS) (S__law_carried : FS) (S_carried_script : FS) : T__law_are_deeds_right S__law_due S_carried_deed S_reach S__law_carried S_carried_script = (sSeq (x_0) (sSeq (x_1 S__law_due S_carried_deed S_reach S__law_carried) (sSeq (x_2 S_carried_script) x_3))) := rfl
def xb_0 (S__law_due : FS) : XS := (sSet 6 (xCall S__law_due (xCons (xVar 0) (xCons (xVar 1) (xCons (xVar 2) (xCons (xVar 5) xNil))))))
def xb_1 (S_carried_deed : FS) : XS := (sSet 7 (xLst (xCons (xCall S_carried_deed (xCons (xVar 0) (xCons (xVar 1) (xCons (xVar 2) (xCons (xVar 5) xNil))))) (xCons (xCallK S_carried_deed 4 [3, 2, 1, 0] (xCons (xVar 5) (xCons (xVar 2) (xCons (xVar 1) (xCons (xVar 0) xNil))))) xNil))))
def xb_2 : XS := (sIf (tBl (x2 cNeS (xCB cRepr (xCons (xVarR 7) xNil)) (xCB cRepr (xCons (x2 cRep (xLst (xCons (xVar 6) xNil)) (xC (.int 2))) xNil)))) (sRet (xC (.bool false))) sNext)
def xb_3 : XS := (sSet 8 (xLst xNil))
def xb_4 (S_reach : FS) : XS := (sFor (xSeq (xVar 6)) (gNm 9) (sExt 8 (xCB cLst (xCons (xCall S_reach (xCons (xVar 0) (xCons (xVar 9) xNil))) xNil))))
def xb_5 (S_reach : FS) (S__law_carried : FS) : XS := (sIf (tBl (x2 cNe (xSortSet (xVarR 8)) (xCB cLst (xCons (xCall S__law_carried (xCons (xVar 2) (xCons (xCall S_reach (xCons (xVar 1) (xCons (xVar 5) xNil))) xNil))) xNil)))) (sRet (xC (.bool false))) sNext)
def xb_6 : XS := (sSet 4 (x2 cAdd (xVarR 4) (xVarR 6)))
theorem xb__eq (S__law_due : FS) (S_carried_deed : FS) (S_reach : FS) (S__law_carried : FS) : x_1 S__law_due S_carried_deed S_reach S__law_carried = sFor (xSeq (xVar 3)) (gNm 5) (sSeq (xb_0 S__law_due) (sSeq (xb_1 S_carried_deed) (sSeq (xb_2) (sSeq (xb_3) (sSeq (xb_4 S_reach) (sSeq (xb_5 S_reach S__law_carried) xb_6)))))) := rfl
theorem okD_encS (s : List Deed) : okD (encS s) = true := by
  simp [encS, okD]
  exact okDs_map fun d _ => by simp [encDeed, okD, okDs]
theorem toD_two (e : D) : toD (.ow [.im e, .im e]) = some (.list [e, e]) := by
  have : toDs [Cell.im e, .im e] = some [e, e] := toDs_im [e, e]
  simp only [toD, this]
  rfl
theorem show_two {k L : Nat} {e : D} (h : Sh k L e) (hk : k ≤ 50) (hL : L ≤ 1000000) : ShowOk (.list [e, e]) :=
  (Sh.lst (ds := [e, e]) (k := k) (L := L) fun d m => by simp at m; subst m; exact h).ok (by omega) (by simp; omega)
theorem sh_dues {b : Hl} {s : List Deed} {m : Nat} (ok : b.ok) (h : InS b.n s) (hm : s.length ≤ m) : Sh 2 (m * 32 + 3) (encS s) :=
  (sh_encS fun d m => by have := h d m; have := ok.top; omega).mono (Nat.le_refl _) (by omega)
theorem due_in {b g : Hl} {f : Nat → Nat} {d : Deed} : InS b.n (due b g f d) := fun e m => due_lt m
theorem dues_in {b g : Hl} {f : Nat → Nat} {s : List Deed} : InS b.n (dues b g f s) := fun e m => by
  obtain ⟨d, _, h⟩ := List.mem_flatMap.mp m
  exact due_lt h
section
variable {E : XEnds} {b g : Hl} {f : Nat → Nat} {s acc : List Deed} {d : Deed} {c6 c7 c8 c9 : Cell}
abbrev DS (b g : Hl) (f : Nat → Nat) (s acc : List Deed) (d : Deed) (c6 c7 c8 c9 : Cell) : List Cell := [.im (encH b), .im (encH g), .im (encM b.n f), .im (encS s), .im (encS acc), .im (encDeed d), c6, c7, c8, c9]
theorem xb0_ok (ok : b.ok) (ok2 : g.ok) (mo : MapOk b g f) (hd : d.2 < g.n) (h : E.nx (DS b g f s acc d (.im (encS (due b g f d))) c7 c8 c9)) : xb_0 S_ldue E (DS b g f s acc d c6 c7 c8 c9) := by
  simp [xb_0]
  exact ⟨b, g, f, d, rfl, ok, ok2, mo, hd, h⟩
theorem xb1_ok (ok : b.ok) (ok2 : g.ok) (mo : MapOk b g f) (hd : d.2 < g.n) (h : E.nx (DS b g f s acc d c6 (.ow [.im (encS (due b g f d)), .im (encS (due b g f d))]) c8 c9)) : xb_1 S_carried_deed E (DS b g f s acc d c6 c7 c8 c9) := by
  simp [xb_1]
  refine ⟨b, g, f, d, rfl, ok, ok2, mo, hd, ?_⟩
  exact ⟨b, g, f, d, rfl, ok, ok2, mo, hd, h⟩
theorem xb2_ok (ok : b.ok) (h : E.nx (DS b g f s acc d (.im (encS (due b g f d))) (.ow [.im (encS (due b g f d)), .im (encS (due b g f d))]) c8 c9)) : xb_2 E (DS b g f s acc d (.im (encS (due b g f d))) (.ow [.im (encS (due b g f d)), .im (encS (due b g f d))]) c8 c9) := by
  have sh : ShowOk (.list [encS (due b g f d), encS (due b g f d)]) := show_two (sh_dues (m := 10) ok due_in (by have := due_len b g f d; have := ok.top; omega)) (by omega) (by omega)
  simp [xb_2, toD_two, sh]
  have e2 : toDs (List.map Cell.im [encS (due b g f d)] ++ List.map Cell.im [encS (due b g f d)]) = some [encS (due b g f d), encS (due b g f d)] := toDs_im [encS (due b g f d), encS (due b g f d)]
  exact ⟨[encS (due b g f d)], rfl, le_size (by simp), _, ⟨_, e2, rfl⟩, sh, .inl ⟨rfl, h⟩⟩
theorem xb3_ok (h : E.nx (DS b g f s acc d c6 c7 (.ow []) c9)) : xb_3 E (DS b g f s acc d c6 c7 c8 c9) := by
  simp [xb_3]
  exact h
theorem xb4_ok (ok : b.ok) (h : ∀ l c9, l.length ≤ 100 → (∀ x, x ∈ l ↔ x < b.n ∧ ((due b g f d).any fun e => rch b e x) = true) → E.nx (DS b g f s acc d (.im (encS (due b g f d))) c7 (.ow ((nats l).map .im)) c9)) : xb_4 S_reach E (DS b g f s acc d (.im (encS (due b g f d))) c7 (.ow []) c9) := by
  have t1 := ok.top
  have hdl := due_len b g f d
  simp [xb_4]
  refine ⟨(due b g f d).map encDeed, rfl, ?_⟩
  refine forGo_pre encDeed (fun l e => l ++ lotL b.n (rch b e)) (fun l γ => ∃ c9, γ = DS b g f s acc d (.im (encS (due b g f d))) c7 (.ow ((nats l).map .im)) c9) [] (due b g f d) _ ⟨_, rfl⟩ ?_ ?_
  · rintro pre e rest eq γ ⟨c9, rfl⟩ nx hnx
    have he : e.2 < b.n := due_in e (by rw [eq]; simp)
    have hl := fold_len (fun (l : List Nat) e => l ++ lotL b.n (rch b e)) b.n (fun l e => by rw [List.length_append]; have := len_lotL b.n (rch b e); omega) pre []
    have hpl : pre.length * b.n ≤ 10 * 10 := Nat.mul_le_mul (by have := congrArg List.length eq; simp at this; omega) t1
    have hl2 := len_lotL b.n (rch b e)
    generalize pre.foldl (fun (l : List Nat) e => l ++ lotL b.n (rch b e)) [] = l at hl hnx ⊢
    simp
    refine ⟨b, e, rfl, ok, he, ?_⟩
    simp [encL]
    refine ⟨le_size (by simp at hl; omega), ?_⟩
    have := hnx _ ⟨.im (encDeed e), rfl⟩
    simpa [nats] using this
  · rintro γ ⟨c9, rfl⟩
    have hl := fold_len (fun (l : List Nat) e => l ++ lotL b.n (rch b e)) b.n (fun l e => by rw [List.length_append]; have := len_lotL b.n (rch b e); omega) (due b g f d) []
    have hpl : (due b g f d).length * b.n ≤ 10 * 10 := Nat.mul_le_mul (by omega) t1
    refine h _ _ (by rw [List.length_nil] at hl; omega) fun x => ?_
    rw [fold_mem (fun (l : List Nat) e => l ++ lotL b.n (rch b e)) (fun e x => x < b.n ∧ rch b e x = true) (fun l e x => by rw [List.mem_append, mem_lotL])]
    simp only [List.not_mem_nil, false_or, List.any_eq_true]
    constructor
    · rintro ⟨e, m, hx, hr⟩; exact ⟨hx, e, m, hr⟩
    · rintro ⟨hx, e, m, hr⟩; exact ⟨e, m, hx, hr⟩
theorem xb5_ok (ok : b.ok) (ok2 : g.ok) (mo : MapOk b g f) (hd : d.2 < g.n) {l : List Nat} (hl : l.length ≤ 100) (hm : ∀ x, x ∈ l ↔ x < b.n ∧ ((due b g f d).any fun e => rch b e x) = true) (h : E.nx (DS b g f s acc d c6 c7 (.ow ((nats l).map .im)) c9)) :
    xb_5 S_reach S_lcarried E (DS b g f s acc d c6 c7 (.ow ((nats l).map .im)) c9) := by
  have t1 := ok.top
  have es := sortU_lot (acc := l) (n := b.n) (T := fun x => rch g d (f x)) fun x => by
    rw [hm]
    constructor
    · rintro ⟨hx, q⟩; rw [due_reach ok ok2 mo hd hx] at q; exact ⟨hx, q⟩
    · rintro ⟨hx, q⟩; rw [due_reach ok ok2 mo hd hx]; exact ⟨hx, q⟩
  have h2 := len_lotL b.n fun x => rch g d (f x)
  simp [xb_5, -List.map_map]
  refine ⟨l.map fun x : Nat => (x : Int), by simp [nats, Function.comp_def], by rw [List.length_map]; omega, by rw [es, List.length_map]; omega, g, d, rfl, ok2, hd, b.n, g.n, f, rch g d, _, rfl, .inl rfl, mo.lt, ?_⟩
  rw [es]
  have e3 : ((lotL b.n fun x => rch g d (f x)).map fun x : Nat => (x : Int)).map (fun n => Cell.im (PyData.int n)) = (nats (lotL b.n fun x => rch g d (f x))).map .im := by simp [nats, Function.comp_def]
  rw [e3]
  have e4 : toD (.ow ((nats (lotL b.n fun x => rch g d (f x))).map .im)) = some (.list (nats (lotL b.n fun x => rch g d (f x)))) := by
    simp only [toD, toDs_im]; rfl
  have e5 : PyData.eqv (.list (nats (lotL b.n fun x => rch g d (f x)))) (.list (nats (lotL b.n fun x => rch g d (f x)))) = true := eqv_self _ (by simp [okD, nats]; exact okDs_map fun _ _ => by simp [okD])
  refine ⟨nats (lotL b.n fun x => rch g d (f x)), rfl, ?_⟩
  simp [e4, e5]
  exact h
theorem xb6_ok (hl : acc.length + (due b g f d).length ≤ 1000) (h : E.nx (DS b g f s (acc ++ due b g f d) d (.im (encS (due b g f d))) c7 c8 c9)) : xb_6 E (DS b g f s acc d (.im (encS (due b g f d))) c7 c8 c9) := by
  simp [xb_6, encS]
  refine ⟨le_size (by omega), ?_⟩
  simpa [DS, encS] using h
end
def S_deedsR : FS := fun cs K' => ∃ (b g : Hl) (f : Nat → Nat) (s : List Deed), cs = [.im (encH b), .im (encH g), .im (encM b.n f), .im (encS s)] ∧ b.ok ∧ g.ok ∧ MapOk b g f ∧ InS g.n s ∧ s.length ≤ 20 ∧ K' (.im (.bool true))
theorem m_deedsR : Main (T__law_are_deeds_right S_ldue S_carried_deed S_reach S_lcarried S_carried_script) N__law_are_deeds_right S_deedsR := by
  rintro cs K' ⟨b, g, f, s, rfl, ok, ok2, mo, hs, hl, h⟩
  have t1 := ok.top
  rw [x__eq]
  show sSeq _ _ _ [.im (encH b), .im (encH g), .im (encM b.n f), .im (encS s), .un, .un, .un, .un, .un, .un]
  rw [sSeq]
  simp [x_0, toDs]
  rw [xb__eq]
  simp only [sFor, xSeq, xVar, List.getElem?_cons_succ, List.getElem?_cons_zero]
  refine ⟨_, rfl, rfl, s.map encDeed, rfl, ?_⟩
  refine forGo_pre encDeed (fun acc d => acc ++ due b g f d) (fun acc γ => ∃ c5 c6 c7 c8 c9, γ = [.im (encH b), .im (encH g), .im (encM b.n f), .im (encS s), .im (encS acc), c5, c6, c7, c8, c9]) [] s _ ⟨_, _, _, _, _, rfl⟩ ?_ ?_
  · rintro pre d rest e γ ⟨c5, c6, c7, c8, c9, rfl⟩ nx hnx
    have hd : d.2 < g.n := hs d (by rw [e]; simp)
    rw [fold_dues, List.nil_append] at hnx ⊢
    have l1 := dues_len b g f pre
    have l2 := due_len b g f d
    have l3 : pre.length * b.n ≤ 20 * 10 := Nat.mul_le_mul (by rw [e, List.length_append] at hl; omega) t1
    simp only [gNm, List.set_cons_succ, List.set_cons_zero]
    rw [sSeq]
    refine xb0_ok ok ok2 mo hd ?_
    simp only []
    rw [sSeq]
    refine xb1_ok ok ok2 mo hd ?_
    simp only []
    rw [sSeq]
    refine xb2_ok ok ?_
    simp only []
    rw [sSeq]
    refine xb3_ok ?_
    simp only []
    rw [sSeq]
    refine xb4_ok ok fun l c9 hl hm => ?_
    simp only []
    rw [sSeq]
    refine xb5_ok ok ok2 mo hd hl hm ?_
    simp only []
    exact xb6_ok (by omega) (hnx _ ⟨_, _, _, _, _, rfl⟩)
  · rintro γ ⟨c5, c6, c7, c8, c9, rfl⟩
    rw [fold_dues, List.nil_append]
    have l1 := dues_len b g f s
    have l3 : s.length * b.n ≤ 20 * 10 := Nat.mul_le_mul hl t1
    have sh : ShowOk (.list [encS (dues b g f s), encS (dues b g f s)]) := show_two (sh_dues (m := 200) ok dues_in (by omega)) (by omega) (by omega)
    simp [x_2, x_3]
    refine ⟨b, g, f, s, rfl, ok, ok2, mo, hs, by omega, ?_⟩
    refine ⟨b, g, f, s, rfl, ok, ok2, mo, hs, by omega, ?_⟩
    simp [toD_two, sh]
    have e2 : toDs (List.map Cell.im [encS (dues b g f s)] ++ List.map Cell.im [encS (dues b g f s)]) = some [encS (dues b g f s), encS (dues b g f s)] := toDs_im [encS (dues b g f s), encS (dues b g f s)]
    refine ⟨[encS (dues b g f s)], rfl, le_size (by simp), _, ⟨_, e2, rfl⟩, sh, ?_⟩
    simpa using h
end L87
set_option maxHeartbeats 1000000
namespace L87
open PySem PySem.Spec PyProof.Rows L2 DL
theorem low_step {b : Hl} (ok : b.ok) {S : Nat → Bool} {d : Deed} (hd : d.2 < b.n) (low : LowS b S) : LowS b (stepS b S d) := by
  obtain ⟨w, p⟩ := d
  intro a x ha hx l hs
  cases w
  · rw [stepS_f] at hs ⊢
    simp only [rch_f, Bool.and_eq_true, Bool.not_eq_true'] at hs ⊢
    refine ⟨low a x ha hx l hs.1, ?_⟩
    cases q : b.le p a with
    | false => rfl
    | true => rw [ok.trans p a x hd ha hx q l] at hs; exact hs.2
  · rw [stepS_t] at hs ⊢
    simp only [rch_t, Bool.or_eq_true] at hs ⊢
    rcases hs with hs | hs
    · exact .inl (low a x ha hx l hs)
    · exact .inr (ok.trans a x p ha hx hd l hs)
theorem low_behind {b : Hl} (ok : b.ok) : ∀ {s : List Deed} {S : Nat → Bool}, InS b.n s → LowS b S → LowS b (behind b S s) := by
  have key : ∀ (s : List Deed) (S : Nat → Bool), InS b.n s → LowS b S → LowS b (s.foldl (stepS b) S) := by
    intro s
    induction s with
    | nil => intro S _ h; exact h
    | cons d s ih => intro S hs h; exact ih _ (fun e m => hs e (List.mem_cons_of_mem _ m)) (low_step ok (hs d List.mem_cons_self) h)
  intro s S hs h a x ha hx l q
  have := key s S hs h a x ha hx l
  rw [fold_behind, fold_behind] at this
  exact this q
theorem behind_dues {b g : Hl} {f : Nat → Nat} {S : Nat → Bool} {s : List Deed} (ok : b.ok) (ok2 : g.ok) (mo : MapOk b g f) (hs : InS g.n s) : lotL b.n (behind b (fun x => S (f x)) (dues b g f s)) = lotL b.n fun x => behind g S s (f x) :=
  lotL_ext fun x hx => by unfold behind; rw [sem_dues ok ok2 mo hx s none hs]
theorem couple_dues {b g : Hl} {f : Nat → Nat} {s : List Deed} (ok : b.ok) (ok2 : g.ok) (mo : MapOk b g f) (hs : InS g.n s) : encC b (dues b g f s) = .tuple [encL (lotL b.n fun x => wetS g s (f x)), encL (lotL b.n fun x => dryS g s (f x))] := by
  unfold encC
  rw [lotL_ext (S := wetS b (dues b g f s)) fun x hx => by unfold wetS; rw [sem_dues ok ok2 mo hx s none hs], lotL_ext (S := dryS b (dues b g f s)) fun x hx => by unfold dryS; rw [sem_dues ok ok2 mo hx s none hs]]
  rfl
theorem sh_lot {n : Nat} {S : Nat → Bool} (hn : n ≤ 10) : Sh 1 200 (encL (lotL n S)) :=
  (sh_encL fun x m => by have := (mem_lotL.mp m).1; omega).mono (Nat.le_refl _) (by have := len_lotL n S; omega)
theorem sh_couple {b : Hl} {s : List Deed} (ok : b.ok) : Sh 2 500 (encC b s) :=
  (Sh.tup (ds := [encL (lotL b.n (wetS b s)), encL (lotL b.n (dryS b s))]) (k := 1) (L := 200) fun d m => by
    have := ok.top
    simp at m
    rcases m with rfl | rfl <;> exact sh_lot this).mono (Nat.le_refl _) (by simp)
def S_ledR : FS := fun cs K' => ∃ (b g : Hl) (f : Nat → Nat) (S : Nat → Bool) (s : List Deed), cs = [.im (encH b), .im (encH g), .im (encM b.n f), .im (encL (lotL g.n S)), .im (encS s)] ∧ b.ok ∧ g.ok ∧ MapOk b g f ∧ LowS g S ∧ InS g.n s ∧ s.length ≤ 20 ∧ K' (.im (.bool true))
theorem m_ledR : Main (T__law_is_led_right S_carried_water S_carried_script S_lcarried S_is_water S_run S_lcouple S_sides S_told S_couple_of) N__law_is_led_right S_ledR := by
  rintro cs K' ⟨b, g, f, S, s, rfl, ok, ok2, mo, low, hs, hl, h⟩
  have t1 := ok.top; have t2 := ok2.top
  have sh1 : ∀ T : Nat → Bool, ShowOk (encL (lotL b.n T)) := fun T => (sh_lot t1).ok (by omega) (by omega)
  simp [T__law_is_led_right, -Bool.exists_bool]
  refine ⟨b, g, f, S, rfl, ok, ok2, mo, low, b, g, f, s, rfl, ok, ok2, mo, hs, by omega, ?_⟩
  simp [sh1, -Bool.exists_bool]
  refine ⟨b.n, g.n, f, S, _, rfl, .inl rfl, mo.lt, ?_⟩
  simp [sh1, -Bool.exists_bool]
  refine ⟨b, _, rfl, ok, low.back mo, ?_⟩
  simp [-Bool.exists_bool]
  refine ⟨b, g, f, S, rfl, ok, ok2, mo, low, ?_⟩
  simp [sh1, -Bool.exists_bool]
  refine ⟨g, S, s, rfl, ok2, low, hs, ?_⟩
  have shp : ShowOk (.list [.tuple [encL (lotL b.n fun x => wetS g s (f x)), encL (lotL b.n fun x => dryS g s (f x))], encC g s]) := by
    have e := couple_dues ok ok2 mo hs
    have := Sh.lst (ds := [encC b (dues b g f s), encC g s]) (k := 2) (L := 500) fun d m => by
      simp at m
      rcases m with rfl | rfl
      · exact sh_couple ok
      · exact sh_couple ok2
    rw [e] at this
    exact this.ok (by omega) (by simp)
  refine ⟨(dues b g f s).length, by simp [lenC, encS], ?_⟩
  split
  · refine ⟨b, _, _, rfl, ok, low.back mo, dues_in, ?_⟩
    rw [behind_dues ok ok2 mo hs]
    refine ⟨_, rfl, sh1 _, rfl, b, g, f, _, rfl, ok, ok2, mo, low_behind ok2 hs low, _, rfl, sh1 _, false, by simp, ?_⟩
    rw [if_neg (by decide)]
    refine ⟨g, rfl, ok2, g, s, rfl, ok2, hs, ?_⟩
    refine ⟨_, rfl, _, rfl, rfl, _, _, rfl, _, _, rfl, rfl, ?_⟩
    refine ⟨b.n, g.n, f, wetS g s, _, rfl, .inl rfl, mo.lt, b.n, g.n, f, dryS g s, _, rfl, .inl rfl, mo.lt, ?_⟩
    simp only [toDs, toD]
    refine ⟨_, rfl, by simp, b, _, rfl, ok, dues_in, g, s, rfl, ok2, hs, ?_⟩
    rw [couple_dues ok ok2 mo hs]
    refine ⟨_, ⟨_, rfl, rfl⟩, shp, shp, ?_⟩
    simpa [encC] using h
  · refine ⟨g, rfl, ok2, g, s, rfl, ok2, hs, ?_⟩
    refine ⟨_, rfl, _, rfl, rfl, _, _, rfl, _, _, rfl, rfl, ?_⟩
    refine ⟨b.n, g.n, f, wetS g s, _, rfl, .inl rfl, mo.lt, b.n, g.n, f, dryS g s, _, rfl, .inl rfl, mo.lt, ?_⟩
    simp only [toDs, toD]
    refine ⟨_, rfl, by simp, b, _, rfl, ok, dues_in, g, s, rfl, ok2, hs, ?_⟩
    rw [couple_dues ok ok2 mo hs]
    refine ⟨_, ⟨_, rfl, rfl⟩, shp, shp, ?_⟩
    simpa [encC] using h
end L87
set_option maxHeartbeats 1000000
namespace L87
open PySem PySem.Spec PyProof.Rows L2 DL
theorem cut_map {α β : Type} (f : α → β) (xs : List α) (l u : Option Int) : cut (xs.map f) l u = (cut xs l u).map f := by
  unfold cut
  simp [List.map_take, List.map_drop]
theorem cut_mem {α : Type} {xs : List α} {l u : Option Int} {x : α} (h : x ∈ cut xs l u) : x ∈ xs := by
  unfold cut at h
  exact List.mem_of_mem_drop (List.mem_of_mem_take h)
theorem cut_len {α : Type} (xs : List α) (l u : Option Int) : (cut xs l u).length ≤ xs.length := by
  unfold cut
  rw [List.length_take, List.length_drop]
  omega
def S_twiceR : FS := fun cs K' => ∃ (b g t : Hl) (f h : Nat → Nat) (S : Nat → Bool) (s : List Deed), cs = [.im (encH b), .im (encH g), .im (encH t), .im (.tuple [encM b.n f, encM g.n h, encL (lotL t.n S), encS s])] ∧ b.ok ∧ g.ok ∧ t.ok ∧ MapOk b g f ∧ MapOk g t h ∧ LowS t S ∧ InS t.n s ∧ s.length ≤ 20 ∧ K' (.im (.bool true))
theorem mapOk_comp {b g t : Hl} {f h : Nat → Nat} (m : MapOk b g f) (k : MapOk g t h) : MapOk b t fun x => h (f x) :=
  ⟨fun a ha => k.lt _ (m.lt a ha), fun a c ha hc l => k.mono _ _ (m.lt a ha) (m.lt c hc) (m.mono a c ha hc l)⟩
theorem couple_twice {b g t : Hl} {f h : Nat → Nat} {s : List Deed} (ok : b.ok) (ok2 : g.ok) (ok3 : t.ok) (mo : MapOk b g f) (mo2 : MapOk g t h) (hs : InS t.n s) : encC b (dues b t (fun x => h (f x)) s) = encC b (dues b g f (dues g t h s)) := by
  rw [couple_dues ok ok3 (mapOk_comp mo mo2) hs, couple_dues ok ok2 mo dues_in]
  have e : ∀ x, x < b.n → sem g (dues g t h s) (f x) none = sem t s (h (f x)) none := fun x hx => sem_dues ok2 ok3 mo2 (mo.lt x hx) s none hs
  rw [lotL_ext (S := fun x => wetS g (dues g t h s) (f x)) (T := fun x => wetS t s (h (f x))) fun x hx => by unfold wetS; rw [e x hx], lotL_ext (S := fun x => dryS g (dues g t h s) (f x)) (T := fun x => dryS t s (h (f x))) fun x hx => by unfold dryS; rw [e x hx]]
def t_0 : XS := (sAsg (xVar 3) (gTp 4 (gC (gNm 4) (gC (gNm 5) (gC (gNm 6) (gC (gNm 7) gN0))))))
def t_1 (S_carried_script : FS) : XS := (sPar [8, 9] (xCons (xCB cTup (xCons (xLC (xSeq (xVarR 4)) (gNm 13) uYes (xFlat (xIx (xVarR 5) (xVarR 13))) [13]) xNil)) (xCons (xCall S_carried_script (xCons (xVar 1) (xCons (xVar 2) (xCons (xVar 5) (xCons (xVar 7) xNil))))) xNil)))
def t_2 (S_carried_water : FS) : XS := (sSet 10 (xCall S_carried_water (xCons (xVar 0) (xCons (xVar 1) (xCons (xVar 4) (xCons (xCall S_carried_water (xCons (xVar 1) (xCons (xVar 2) (xCons (xVar 5) (xCons (xVar 6) xNil))))) xNil))))))
def t_3 (S_carried_water : FS) : XS := (sIf (tBl (x2 cNeS (xCB cRepr (xCons (xCall S_carried_water (xCons (xVar 0) (xCons (xVar 2) (xCons (xVar 8) (xCons (xVar 6) xNil))))) xNil)) (xCB cRepr (xCons (xVarR 10) xNil)))) (sRet (xC (.bool false))) sNext)
def t_4 (S_carried_script : FS) : XS := (sFor (xRange1 (xCons (xC (.int 4)) xNil)) (gNm 11) (sIf (tBl (x2 (cB0 fun i j => decide (j < i)) (xCB cLen (xCons (xVarR 9) xNil)) (xC (.int 7)))) (sSeq (sSet 7 (xSl (xVarR 7) xNoPart (xPart (x1 cNeg (xC (.int 1)))))) (sSet 9 (xCall S_carried_script (xCons (xVar 1) (xCons (xVar 2) (xCons (xVar 5) (xCons (xVar 7) xNil))))))) sNext))
def t_5 (S_carried_script : FS) : XS := (sSet 12 (xCall S_carried_script (xCons (xVar 0) (xCons (xVar 2) (xCons (xVar 8) (xCons (xVar 7) xNil))))))
def t_6 (S_carried_script : FS) (S__law_told_couple : FS) : XS := (sRet (x2 cEqS (xCB cRepr (xCons (xCall S__law_told_couple (xCons (xVar 0) (xCons (xVar 12) xNil))) xNil)) (xCB cRepr (xCons (xCall S__law_told_couple (xCons (xVar 0) (xCons (xCall S_carried_script (xCons (xVar 0) (xCons (xVar 1) (xCons (xVar 4) (xCons (xVar 9) xNil))))) xNil))) xNil))))
theorem t__eq (S_carried_script : FS) (S_carried_water : FS) (S__law_told_couple : FS) : T__law_is_twice_right S_carried_script S_carried_water S__law_told_couple = (sSeq (t_0) (sSeq (t_1 S_carried_script) (sSeq (t_2 S_carried_water) (sSeq (t_3 S_carried_water) (sSeq (t_4 S_carried_script) (sSeq (t_5 S_carried_script) (t_6 S_carried_script S__law_told_couple))))))) := rfl
theorem m_twiceR : Main (T__law_is_twice_right S_carried_script S_carried_water S_told) N__law_is_twice_right S_twiceR := by
  rintro cs K' ⟨b, g, t, f, h, S, s, rfl, ok, ok2, ok3, mo, mo2, low, hs, hl, hK⟩
  have t1 := ok.top; have t2 := ok2.top; have t3 := ok3.top
  have sh1 : ∀ T : Nat → Bool, ShowOk (encL (lotL b.n T)) := fun T => (sh_lot t1).ok (by omega) (by omega)
  rw [t__eq]
  show sSeq _ _ _ [.im (encH b), .im (encH g), .im (encH t), .im (.tuple [encM b.n f, encM g.n h, encL (lotL t.n S), encS s]), .un, .un, .un, .un, .un, .un, .un, .un, .un, .un]
  rw [sSeq]
  simp [t_0]
  simp [t_1]
  have mo3 := mapOk_comp mo mo2
  refine ⟨((List.range b.n).map f).map encN, rfl, ?_⟩
  rw [List.map_map]
  refine compGo_map (encN ∘ f) (fun x => encN (h (f x))) (List.range b.n) (fun x hx K1 K0 hk => ?_) ⟨_, seqF_o, ?_⟩
  · have hfx := mo.lt x (by simpa using hx)
    have e : ixC (.im (encM g.n h)) (.im (.int (f x : Nat))) = some (.im (.int (h (f x) : Nat))) := by
      have := mapL_at h hfx
      simp [encM, encL]
      simpa [nats] using this
    simp [encN, e]
    exact hk
  refine ⟨g, t, h, s, rfl, ok2, ok3, mo2, hs, by omega, ?_⟩
  have eM : PyData.tuple ((List.range b.n).map fun x => encN (h (f x))) = encM b.n fun x => h (f x) := by simp [encM, encL, encN, Function.comp_def]
  rw [eM]
  simp [t_2]
  refine ⟨g, t, h, S, rfl, ok2, ok3, mo2, low, ?_⟩
  simp
  refine ⟨b, g, f, fun x => S (h x), rfl, ok, ok2, mo, low.back mo2, ?_⟩
  simp [t_3]
  refine ⟨b, t, fun x => h (f x), S, rfl, ok, ok3, mo3, low, ?_⟩
  simp [sh1]
  simp [t_4]
  refine forGo_inv encN (fun γ => ∃ (s' : List Deed) (c11 : Cell), InS t.n s' ∧ s'.length ≤ 20 ∧ γ = [.im (encH b), .im (encH g), .im (encH t), .im (.tuple [encM b.n f, encM g.n h, encL (lotL t.n S), encS s]), .im (encM b.n f), .im (encM g.n h), .im (encL (lotL t.n S)), .im (encS s'), .im (encM b.n fun x => h (f x)), .im (encS (dues g t h s')), .im (encL (lotL b.n fun x => S (h (f x)))), c11, .un, .un]) (List.range 4) _ ⟨s, _, hs, hl, rfl⟩ ?_ ?_
  · rintro k hk γ ⟨s', c11, hs', hl', rfl⟩ nx hnx
    simp [encN]
    refine ⟨(dues g t h s').length, by simp [lenC, encS], ?_⟩
    split
    · have hc : cut (s'.map encDeed) none (some (-1)) = (cut s' none (some (-1))).map encDeed := cut_map _ _ _ _
      have m1 : InS t.n (cut s' none (some (-1))) := fun d m => hs' d (cut_mem m)
      have m2 : (cut s' none (some (-1))).length ≤ 20 := Nat.le_trans (cut_len _ _ _) hl'
      simp [encS, hc]
      exact ⟨g, t, h, _, rfl, ok2, ok3, mo2, m1, by omega, hnx _ ⟨_, _, m1, m2, rfl⟩⟩
    · exact hnx _ ⟨s', _, hs', hl', rfl⟩
  · rintro γ ⟨s', c11, hs', hl', rfl⟩
    have hdl := dues_len g t h s'
    have hd2 : s'.length * g.n ≤ 20 * 10 := Nat.mul_le_mul hl' t2
    simp [t_5]
    refine ⟨b, t, fun x => h (f x), s', rfl, ok, ok3, mo3, hs', by omega, ?_⟩
    simp [t_6]
    refine ⟨b, _, rfl, ok, dues_in, ?_⟩
    rw [couple_twice ok ok2 ok3 mo mo2 hs']
    have sh : ShowOk (encC b (dues b g f (dues g t h s'))) := (sh_couple ok).ok (by omega) (by omega)
    simp [sh]
    refine ⟨b, g, f, _, rfl, ok, ok2, mo, dues_in, by omega, ?_⟩
    refine ⟨b, _, rfl, ok, dues_in, ?_⟩
    simp [sh]
    exact hK
end L87
set_option maxHeartbeats 1000000
namespace L87
open PySem PySem.Spec PyProof.Rows L2 DL
theorem low_closing {g : Hl} (ok : g.ok) (S : Nat → Bool) : LowS g fun a => (lotL g.n S).any fun x => dnR g x a := by
  intro a x ha hx l h
  rw [List.any_eq_true] at h ⊢
  obtain ⟨y, my, q⟩ := h
  exact ⟨y, my, ok.trans a x y ha hx (mem_lotL.mp my).1 l q⟩
theorem map_id {g : Hl} : MapOk g g fun x => x := ⟨fun a ha => ha, fun a b _ _ l => l⟩
theorem same_id (g : Hl) : PyData.tuple (rgI 0 (g.n : Int)) = encM g.n fun x => x := by
  unfold rgI encM encL
  rw [show ((g.n : Int) - 0).toNat = g.n by omega, List.map_id']
  congr 1
  exact List.map_congr_left fun i _ => by rw [Int.zero_add]
theorem law_rest (E : XEnds) (x0 : Cell) (hE : E.rt (.im (.bool true))) : T_law_rest S_deck S_mapped S_pick S_lscript S_draw S_lclosing S_sides S_llot S_deedsR S_ledR S_carried_water S_run S_carried_script S_led S_twiceR E [x0, .deck, .un, .un, .un, .un, .un, .un, .un, .un, .un, .un] := by
  simp [T_law_rest, -Bool.exists_bool]
  refine ⟨[.int 8, .int 5, .int 3, .int 8, .int 8, .int 5, .int 3, .int 10], .inl rfl, by simp, by simp, fun d hd => ?_⟩
  obtain ⟨k, hk, rfl⟩ : ∃ k : Nat, (1 ≤ k ∧ k ≤ 10) ∧ d = .int (k : Nat) := by
    simp only [List.mem_cons, List.not_mem_nil, or_false] at hd
    rcases hd with rfl | rfl | rfl | rfl | rfl | rfl | rfl | rfl
    · exact ⟨8, by omega, rfl⟩
    · exact ⟨5, by omega, rfl⟩
    · exact ⟨3, by omega, rfl⟩
    · exact ⟨8, by omega, rfl⟩
    · exact ⟨8, by omega, rfl⟩
    · exact ⟨5, by omega, rfl⟩
    · exact ⟨3, by omega, rfl⟩
    · exact ⟨10, by omega, rfl⟩
  refine ⟨k, rfl, hk.1, hk.2, fun b g f ok ok2 mo => ?_⟩
  simp [encH, -Bool.exists_bool]
  refine draw_nat (k := 8) (by omega) (by omega) fun r hr => ?_
  have t1 := ok.top; have t2 := ok2.top; have p2 := ok2.pos
  refine ⟨r, rfl, ?_⟩
  split
  all_goals
    first
      | refine ⟨g.n, 7, rfl, p2, t2, by omega, fun s hs hl => ?_⟩
      | refine ⟨g.n, 20, rfl, p2, t2, by omega, fun s hs hl => ?_⟩
    refine ⟨g, rfl, ok2, ?_⟩
    simp [sidesD, -Bool.exists_bool]
    refine ⟨g.n, rfl, t2, fun S => ?_⟩
    refine ⟨g.n, dnR g, S, rfl, t2, ?_⟩
    have low := low_closing ok2 S
    generalize (fun a => (lotL g.n S).any fun x => dnR g x a) = W at low ⊢
    refine ⟨b, g, f, s, rfl, ok, ok2, mo, hs, by omega, true, rfl, ?_⟩
    rw [if_pos rfl]
    refine ⟨rfl, b, g, f, W, s, rfl, ok, ok2, mo, low, hs, by omega, true, rfl, ?_⟩
    rw [if_pos rfl, same_id]
    refine ⟨by omega, rfl, g, g, fun x => x, W, rfl, ok2, ok2, map_id, low, ?_⟩
    refine ⟨rfl, g, g, fun x => x, s, rfl, ok2, ok2, map_id, hs, by omega, ?_⟩
    refine ⟨g, W, _, rfl, ok2, low, dues_in, ?_⟩
    have e1 : lotL g.n (behind g W (dues g g (fun x => x) s)) = lotL g.n (behind g W s) := behind_dues ok2 ok2 map_id hs
    rw [e1]
    have sh : ShowOk (.list [encL (lotL g.n W), encL (lotL g.n (behind g W s))]) := (Sh.lst (k := 1) (L := 200) fun d m => by
      simp at m
      rcases m with rfl | rfl <;> exact sh_lot t2).ok (by omega) (by simp)
    refine ⟨_, ⟨_, rfl, rfl⟩, sh, rfl, g, W, s, rfl, ok2, low, hs, ?_⟩
    refine ⟨_, ⟨_, rfl, rfl⟩, sh, false, by simp, ?_⟩
    rw [if_neg (by decide)]
    refine draw_nat (k := 6) (by omega) (by omega) fun q hq => ⟨q, rfl, ?_⟩
    rw [show (1 + (q : Int)) = ((q + 1 : Nat) : Int) by omega]
    refine ⟨g, q + 1, rfl, ok2, by omega, by omega, fun t h ok3 htn mo2 => ?_⟩
    have t3 := ok3.top; have p3 := ok3.pos
    refine ⟨_, rfl, _, rfl, rfl, _, _, rfl, _, _, rfl, rfl, t, rfl, ok3, ?_⟩
    refine ⟨_, rfl, rfl, .im (.int t.n), by simp [encH], rfl, t.n, rfl, t3, fun S2 => ?_⟩
    refine ⟨t.n, dnR t, S2, rfl, t3, ?_⟩
    have low2 := low_closing ok3 S2
    generalize (fun a => (lotL t.n S2).any fun x => dnR t x a) = W2 at low2 ⊢
    refine ⟨rfl, .im (.int t.n), by simp [encH], rfl, t.n, 4, rfl, p3, t3, by omega, fun s2 hs2 hl2 => ?_⟩
    exact ⟨_, ⟨[encL (lotL t.n W2), encS s2], rfl, rfl⟩, by simp, b, g, t, f, h, W2, s2, rfl, ok, ok2, ok3, mo, mo2, low2, hs2, by omega, hE⟩
def S_law : FS := fun cs K' => ∃ ns : List Int, cs = [.im (.list (ns.map .int))] ∧ ns.length ≤ 63 ∧ K' (.im (.bool true))
theorem m_law : Main (T_law S_deck S_mapped S_pick S_lscript S_draw S_lclosing S_sides S_llot S_deedsR S_ledR S_carried_water S_run S_carried_script S_led S_twiceR) N_law S_law := by
  rintro cs K' ⟨ns, rfl, hl, h⟩
  unfold T_law
  rw [sSeq]
  refine ⟨_, rfl, rfl, ns, rfl, hl, fun ms m hms => ?_⟩
  refine ⟨ms, m, 0, rfl, by omega, ?_⟩
  exact law_rest _ _ ⟨⟨_, rfl⟩, h⟩
end L87
set_option maxHeartbeats 2000000
namespace L87
open PySem PySem.Spec PyProof.Rows L2 DL
section
variable {P : Program} {w : World} {K : PySem.W.Frag} {mg : Str → Option Value} {base : Heap} {tb : List (Addr × Str)}
/-- a def of the top, as the head leaves it -/
def Fx (K : PySem.W.Frag) (mg : Str → Option Value) (x nm : Str) (st : Stmt) (ps : List Str) : Prop := ∃ f fd, mg x = some (.ref f) ∧ FnP K nm st f fd ∧ Binds K fd ps []
theorem len_is_integer : ∀ cs K', S_is_integer cs K' → cs.length = P_is_integer.length := by (intro cs K' h; unfold S_is_integer at h; split at h <;> first | rfl | exact h.elim)
theorem j_is_integer (G : Gs K mg) (h : Fx K mg "is_integer" "is_integer" s_is_integer P_is_integer) : Cal P w K mg base ⟨dkn, tb⟩ 1 "is_integer" s_is_integer P_is_integer S_is_integer := by
  obtain ⟨f, fd, hm, F, hb⟩ := h
  exact ⟨_, f, fd, hm, F, hb, fn_okD F sc_is_integer len_is_integer (fun cdv A outer s H E B hB hr hgd => b_is_integer G cdv A outer s H E B hB hr hgd) m_is_integer⟩
theorem len_is_between : ∀ cs K', S_is_between cs K' → cs.length = P_is_between.length := by (intro cs K' h; unfold S_is_between at h; split at h <;> first | rfl | exact h.elim)
theorem j_is_between (G : Gs K mg) (h : Fx K mg "is_between" "is_between" s_is_between P_is_between) (c_is_integer : Cal P w K mg base ⟨dkn, tb⟩ 1 "is_integer" s_is_integer P_is_integer S_is_integer) : Cal P w K mg base ⟨dkn, tb⟩ 2 "is_between" s_is_between P_is_between S_is_between := by
  obtain ⟨f, fd, hm, F, hb⟩ := h
  exact ⟨_, f, fd, hm, F, hb, fn_okD F sc_is_between len_is_between (fun cdv A outer s H E B hB hr hgd => b_is_between G c_is_integer cdv A outer s H E B hB hr hgd) m_is_between⟩
theorem len_is_pair_of : ∀ cs K', S_is_pair_of cs K' → cs.length = P_is_pair_of.length := by (intro cs K' h; repeat (first | (obtain ⟨e, -⟩ := h; subst e; rfl) | obtain ⟨_, h⟩ := h))
theorem j_is_pair_of (G : Gs K mg) (h : Fx K mg "is_pair_of" "is_pair_of" s_is_pair_of P_is_pair_of) (c_is_between : Cal P w K mg base ⟨dkn, tb⟩ 2 "is_between" s_is_between P_is_between S_is_between) : Cal P w K mg base ⟨dkn, tb⟩ 3 "is_pair_of" s_is_pair_of P_is_pair_of S_is_pair_of := by
  obtain ⟨f, fd, hm, F, hb⟩ := h
  exact ⟨_, f, fd, hm, F, hb, fn_okD F sc_is_pair_of len_is_pair_of (fun cdv A outer s H E B hB hr hgd => b_is_pair_of G c_is_between cdv A outer s H E B hB hr hgd) m_is_pair_of⟩
theorem len_is_book_value : ∀ cs K', S_is_book_value cs K' → cs.length = P_is_book_value.length := by (intro cs K' h; repeat (first | (obtain ⟨e, -⟩ := h; subst e; rfl) | obtain ⟨_, h⟩ := h))
theorem j_is_book_value (G : Gs K mg) (h : Fx K mg "is_book_value" "is_book_value" s_is_book_value P_is_book_value) (c_is_between : Cal P w K mg base ⟨dkn, tb⟩ 2 "is_between" s_is_between P_is_between S_is_between) (c_is_pair_of : Cal P w K mg base ⟨dkn, tb⟩ 3 "is_pair_of" s_is_pair_of P_is_pair_of S_is_pair_of) : Cal P w K mg base ⟨dkn, tb⟩ 4 "is_book_value" s_is_book_value P_is_book_value S_is_book_value := by
  obtain ⟨f, fd, hm, F, hb⟩ := h
  exact ⟨_, f, fd, hm, F, hb, fn_okD F sc_is_book_value len_is_book_value (fun cdv A outer s H E B hB hr hgd => b_is_book_value G c_is_between c_is_pair_of cdv A outer s H E B hB hr hgd) m_is_book_value⟩
theorem len_is_hill_value : ∀ cs K', S_is_hill_value cs K' → cs.length = P_is_hill_value.length := by (intro cs K' h; repeat (first | (obtain ⟨e, -⟩ := h; subst e; rfl) | obtain ⟨_, h⟩ := h))
theorem j_is_hill_value (G : Gs K mg) (h : Fx K mg "is_hill_value" "is_hill_value" s_is_hill_value P_is_hill_value) (c_is_book_value : Cal P w K mg base ⟨dkn, tb⟩ 4 "is_book_value" s_is_book_value P_is_book_value S_is_book_value) (c_closing_of : Cal P w K mg base ⟨dkn, tb⟩ 2 "closing_of" s_closing_of P_closing_of S_closing_of) : Cal P w K mg base ⟨dkn, tb⟩ 5 "is_hill_value" s_is_hill_value P_is_hill_value S_is_hill_value := by
  obtain ⟨f, fd, hm, F, hb⟩ := h
  exact ⟨_, f, fd, hm, F, hb, fn_okD F sc_is_hill_value len_is_hill_value (fun cdv A outer s H E B hB hr hgd => b_is_hill_value G c_is_book_value c_closing_of cdv A outer s H E B hB hr hgd) m_is_hill_value⟩
theorem len_need_hill : ∀ cs K', S_need_hill cs K' → cs.length = P_need_hill.length := by (intro cs K' h; repeat (first | (obtain ⟨e, -⟩ := h; subst e; rfl) | obtain ⟨_, h⟩ := h))
theorem j_need_hill (G : Gs K mg) (h : Fx K mg "need_hill" "need_hill" s_need_hill P_need_hill) (c_is_hill_value : Cal P w K mg base ⟨dkn, tb⟩ 5 "is_hill_value" s_is_hill_value P_is_hill_value S_is_hill_value) : Cal P w K mg base ⟨dkn, tb⟩ 6 "need_hill" s_need_hill P_need_hill S_need_hill := by
  obtain ⟨f, fd, hm, F, hb⟩ := h
  exact ⟨_, f, fd, hm, F, hb, fn_okD F sc_need_hill len_need_hill (fun cdv A outer s H E B hB hr hgd => b_need_hill G c_is_hill_value cdv A outer s H E B hB hr hgd) m_need_hill⟩
theorem len_lows : ∀ cs K', S_lows cs K' → cs.length = P_lows.length := by (intro cs K' h; repeat (first | (obtain ⟨e, -⟩ := h; subst e; rfl) | obtain ⟨_, h⟩ := h))
theorem j_lows (G : Gs K mg) (h : Fx K mg "lows" "lows" s_lows P_lows) : Cal P w K mg base ⟨dkn, tb⟩ 1 "lows" s_lows P_lows S_lows := by
  obtain ⟨f, fd, hm, F, hb⟩ := h
  exact ⟨_, f, fd, hm, F, hb, fn_okD F sc_lows len_lows (fun cdv A outer s H E B hB hr hgd => b_lows G cdv A outer s H E B hB hr hgd) m_lows⟩
theorem len_highs : ∀ cs K', S_highs cs K' → cs.length = P_highs.length := by (intro cs K' h; repeat (first | (obtain ⟨e, -⟩ := h; subst e; rfl) | obtain ⟨_, h⟩ := h))
theorem j_highs (G : Gs K mg) (h : Fx K mg "highs" "highs" s_highs P_highs) : Cal P w K mg base ⟨dkn, tb⟩ 1 "highs" s_highs P_highs S_highs := by
  obtain ⟨f, fd, hm, F, hb⟩ := h
  exact ⟨_, f, fd, hm, F, hb, fn_okD F sc_highs len_highs (fun cdv A outer s H E B hB hr hgd => b_highs G cdv A outer s H E B hB hr hgd) m_highs⟩
theorem len_hill_of_lows : ∀ cs K', S_hill_of_lows cs K' → cs.length = P_hill_of_lows.length := by (intro cs K' h; repeat (first | (obtain ⟨e, -⟩ := h; subst e; rfl) | obtain ⟨_, h⟩ := h))
theorem j_hill_of_lows (G : Gs K mg) (h : Fx K mg "hill_of_lows" "hill_of_lows" s_hill_of_lows P_hill_of_lows) : Cal P w K mg base ⟨dkn, tb⟩ 1 "hill_of_lows" s_hill_of_lows P_hill_of_lows S_hill_of_lows := by
  obtain ⟨f, fd, hm, F, hb⟩ := h
  exact ⟨_, f, fd, hm, F, hb, fn_okD F sc_hill_of_lows len_hill_of_lows (fun cdv A outer s H E B hB hr hgd => b_hill_of_lows G cdv A outer s H E B hB hr hgd) m_hill_of_lows⟩
theorem len_closing_of : ∀ cs K', S_closing_of cs K' → cs.length = P_closing_of.length := by (intro cs K' h; repeat (first | (obtain ⟨e, -⟩ := h; subst e; rfl) | obtain ⟨_, h⟩ := h))
theorem j_closing_of (G : Gs K mg) (h : Fx K mg "closing_of" "closing_of" s_closing_of P_closing_of) (c_lows : Cal P w K mg base ⟨dkn, tb⟩ 1 "lows" s_lows P_lows S_lows) (c_hill_of_lows : Cal P w K mg base ⟨dkn, tb⟩ 1 "hill_of_lows" s_hill_of_lows P_hill_of_lows S_hill_of_lows) : Cal P w K mg base ⟨dkn, tb⟩ 2 "closing_of" s_closing_of P_closing_of S_closing_of := by
  obtain ⟨f, fd, hm, F, hb⟩ := h
  exact ⟨_, f, fd, hm, F, hb, fn_okD F sc_closing_of len_closing_of (fun cdv A outer s H E B hB hr hgd => b_closing_of G c_lows c_hill_of_lows cdv A outer s H E B hB hr hgd) m_closing_of⟩
theorem len_mask_of : ∀ cs K', S_mask_of cs K' → cs.length = P_mask_of.length := by (intro cs K' h; repeat (first | (obtain ⟨e, -⟩ := h; subst e; rfl) | obtain ⟨_, h⟩ := h))
theorem j_mask_of (G : Gs K mg) (h : Fx K mg "mask_of" "mask_of" s_mask_of P_mask_of) : Cal P w K mg base ⟨dkn, tb⟩ 1 "mask_of" s_mask_of P_mask_of S_mask_of := by
  obtain ⟨f, fd, hm, F, hb⟩ := h
  exact ⟨_, f, fd, hm, F, hb, fn_okD F sc_mask_of len_mask_of (fun cdv A outer s H E B hB hr hgd => b_mask_of G cdv A outer s H E B hB hr hgd) m_mask_of⟩
theorem len_lot_of : ∀ cs K', S_lot_of cs K' → cs.length = P_lot_of.length := by (intro cs K' h; repeat (first | (obtain ⟨e, -⟩ := h; subst e; rfl) | obtain ⟨_, h⟩ := h))
theorem j_lot_of (G : Gs K mg) (h : Fx K mg "lot_of" "lot_of" s_lot_of P_lot_of) : Cal P w K mg base ⟨dkn, tb⟩ 1 "lot_of" s_lot_of P_lot_of S_lot_of := by
  obtain ⟨f, fd, hm, F, hb⟩ := h
  exact ⟨_, f, fd, hm, F, hb, fn_okD F sc_lot_of len_lot_of (fun cdv A outer s H E B hB hr hgd => b_lot_of G cdv A outer s H E B hB hr hgd) m_lot_of⟩
theorem len_is_lot_value : ∀ cs K', S_is_lot_value cs K' → cs.length = P_is_lot_value.length := by (intro cs K' h; repeat (first | (obtain ⟨e, -⟩ := h; subst e; rfl) | obtain ⟨_, h⟩ := h))
theorem j_is_lot_value (G : Gs K mg) (h : Fx K mg "is_lot_value" "is_lot_value" s_is_lot_value P_is_lot_value) (c_is_between : Cal P w K mg base ⟨dkn, tb⟩ 2 "is_between" s_is_between P_is_between S_is_between) : Cal P w K mg base ⟨dkn, tb⟩ 3 "is_lot_value" s_is_lot_value P_is_lot_value S_is_lot_value := by
  obtain ⟨f, fd, hm, F, hb⟩ := h
  exact ⟨_, f, fd, hm, F, hb, fn_okD F sc_is_lot_value len_is_lot_value (fun cdv A outer s H E B hB hr hgd => b_is_lot_value G c_is_between cdv A outer s H E B hB hr hgd) m_is_lot_value⟩
theorem len_closed_mask : ∀ cs K', S_closed_mask cs K' → cs.length = P_closed_mask.length := by (intro cs K' h; repeat (first | (obtain ⟨e, -⟩ := h; subst e; rfl) | obtain ⟨_, h⟩ := h))
theorem j_closed_mask (G : Gs K mg) (h : Fx K mg "closed_mask" "closed_mask" s_closed_mask P_closed_mask) (c_lot_of : Cal P w K mg base ⟨dkn, tb⟩ 1 "lot_of" s_lot_of P_lot_of S_lot_of) : Cal P w K mg base ⟨dkn, tb⟩ 2 "closed_mask" s_closed_mask P_closed_mask S_closed_mask := by
  obtain ⟨f, fd, hm, F, hb⟩ := h
  exact ⟨_, f, fd, hm, F, hb, fn_okD F sc_closed_mask len_closed_mask (fun cdv A outer s H E B hB hr hgd => b_closed_mask G c_lot_of cdv A outer s H E B hB hr hgd) m_closed_mask⟩
theorem len_lower_mask : ∀ cs K', S_lower_mask cs K' → cs.length = P_lower_mask.length := by (intro cs K' h; repeat (first | (obtain ⟨e, -⟩ := h; subst e; rfl) | obtain ⟨_, h⟩ := h))
theorem j_lower_mask (G : Gs K mg) (h : Fx K mg "lower_mask" "lower_mask" s_lower_mask P_lower_mask) (c_closed_mask : Cal P w K mg base ⟨dkn, tb⟩ 2 "closed_mask" s_closed_mask P_closed_mask S_closed_mask) (c_lows : Cal P w K mg base ⟨dkn, tb⟩ 1 "lows" s_lows P_lows S_lows) : Cal P w K mg base ⟨dkn, tb⟩ 3 "lower_mask" s_lower_mask P_lower_mask S_lower_mask := by
  obtain ⟨f, fd, hm, F, hb⟩ := h
  exact ⟨_, f, fd, hm, F, hb, fn_okD F sc_lower_mask len_lower_mask (fun cdv A outer s H E B hB hr hgd => b_lower_mask G c_closed_mask c_lows cdv A outer s H E B hB hr hgd) m_lower_mask⟩
theorem len_is_lower_value : ∀ cs K', S_is_lower_value cs K' → cs.length = P_is_lower_value.length := by (intro cs K' h; repeat (first | (obtain ⟨e, -⟩ := h; subst e; rfl) | obtain ⟨_, h⟩ := h))
theorem j_is_lower_value (G : Gs K mg) (h : Fx K mg "is_lower_value" "is_lower_value" s_is_lower_value P_is_lower_value) (c_is_lot_value : Cal P w K mg base ⟨dkn, tb⟩ 3 "is_lot_value" s_is_lot_value P_is_lot_value S_is_lot_value) (c_lower_mask : Cal P w K mg base ⟨dkn, tb⟩ 3 "lower_mask" s_lower_mask P_lower_mask S_lower_mask) (c_mask_of : Cal P w K mg base ⟨dkn, tb⟩ 1 "mask_of" s_mask_of P_mask_of S_mask_of) : Cal P w K mg base ⟨dkn, tb⟩ 4 "is_lower_value" s_is_lower_value P_is_lower_value S_is_lower_value := by
  obtain ⟨f, fd, hm, F, hb⟩ := h
  exact ⟨_, f, fd, hm, F, hb, fn_okD F sc_is_lower_value len_is_lower_value (fun cdv A outer s H E B hB hr hgd => b_is_lower_value G c_is_lot_value c_lower_mask c_mask_of cdv A outer s H E B hB hr hgd) m_is_lower_value⟩
theorem len_ends_of : ∀ cs K', S_ends_of cs K' → cs.length = P_ends_of.length := by (intro cs K' h; repeat (first | (obtain ⟨e, -⟩ := h; subst e; rfl) | obtain ⟨_, h⟩ := h))
theorem j_ends_of (G : Gs K mg) (h : Fx K mg "ends_of" "ends_of" s_ends_of P_ends_of) (c_lot_of : Cal P w K mg base ⟨dkn, tb⟩ 1 "lot_of" s_lot_of P_lot_of S_lot_of) : Cal P w K mg base ⟨dkn, tb⟩ 2 "ends_of" s_ends_of P_ends_of S_ends_of := by
  obtain ⟨f, fd, hm, F, hb⟩ := h
  exact ⟨_, f, fd, hm, F, hb, fn_okD F sc_ends_of len_ends_of (fun cdv A outer s H E B hB hr hgd => b_ends_of G c_lot_of cdv A outer s H E B hB hr hgd) m_ends_of⟩
theorem len_highest_of : ∀ cs K', S_highest_of cs K' → cs.length = P_highest_of.length := by (intro cs K' h; repeat (first | (obtain ⟨e, -⟩ := h; subst e; rfl) | obtain ⟨_, h⟩ := h))
theorem j_highest_of (G : Gs K mg) (h : Fx K mg "highest_of" "highest_of" s_highest_of P_highest_of) (c_ends_of : Cal P w K mg base ⟨dkn, tb⟩ 2 "ends_of" s_ends_of P_ends_of S_ends_of) (c_highs : Cal P w K mg base ⟨dkn, tb⟩ 1 "highs" s_highs P_highs S_highs) (c_lows : Cal P w K mg base ⟨dkn, tb⟩ 1 "lows" s_lows P_lows S_lows) : Cal P w K mg base ⟨dkn, tb⟩ 3 "highest_of" s_highest_of P_highest_of S_highest_of := by
  obtain ⟨f, fd, hm, F, hb⟩ := h
  exact ⟨_, f, fd, hm, F, hb, fn_okD F sc_highest_of len_highest_of (fun cdv A outer s H E B hB hr hgd => b_highest_of G c_ends_of c_highs c_lows cdv A outer s H E B hB hr hgd) m_highest_of⟩
theorem len_lowest_of : ∀ cs K', S_lowest_of cs K' → cs.length = P_lowest_of.length := by (intro cs K' h; repeat (first | (obtain ⟨e, -⟩ := h; subst e; rfl) | obtain ⟨_, h⟩ := h))
theorem j_lowest_of (G : Gs K mg) (h : Fx K mg "lowest_of" "lowest_of" s_lowest_of P_lowest_of) (c_ends_of : Cal P w K mg base ⟨dkn, tb⟩ 2 "ends_of" s_ends_of P_ends_of S_ends_of) (c_lows : Cal P w K mg base ⟨dkn, tb⟩ 1 "lows" s_lows P_lows S_lows) (c_highs : Cal P w K mg base ⟨dkn, tb⟩ 1 "highs" s_highs P_highs S_highs) : Cal P w K mg base ⟨dkn, tb⟩ 3 "lowest_of" s_lowest_of P_lowest_of S_lowest_of := by
  obtain ⟨f, fd, hm, F, hb⟩ := h
  exact ⟨_, f, fd, hm, F, hb, fn_okD F sc_lowest_of len_lowest_of (fun cdv A outer s H E B hB hr hgd => b_lowest_of G c_ends_of c_lows c_highs cdv A outer s H E B hB hr hgd) m_lowest_of⟩
theorem len_is_deed_value : ∀ cs K', S_is_deed_value cs K' → cs.length = P_is_deed_value.length := by (intro cs K' h; repeat (first | (obtain ⟨e, -⟩ := h; subst e; rfl) | obtain ⟨_, h⟩ := h))
theorem j_is_deed_value (G : Gs K mg) (h : Fx K mg "is_deed_value" "is_deed_value" s_is_deed_value P_is_deed_value) (c_is_between : Cal P w K mg base ⟨dkn, tb⟩ 2 "is_between" s_is_between P_is_between S_is_between) : Cal P w K mg base ⟨dkn, tb⟩ 3 "is_deed_value" s_is_deed_value P_is_deed_value S_is_deed_value := by
  obtain ⟨f, fd, hm, F, hb⟩ := h
  exact ⟨_, f, fd, hm, F, hb, fn_okD F sc_is_deed_value len_is_deed_value (fun cdv A outer s H E B hB hr hgd => b_is_deed_value G c_is_between cdv A outer s H E B hB hr hgd) m_is_deed_value⟩
theorem len_is_script_value : ∀ cs K', S_is_script_value cs K' → cs.length = P_is_script_value.length := by (intro cs K' h; repeat (first | (obtain ⟨e, -⟩ := h; subst e; rfl) | obtain ⟨_, h⟩ := h))
theorem j_is_script_value (G : Gs K mg) (h : Fx K mg "is_script_value" "is_script_value" s_is_script_value P_is_script_value) (c_is_deed_value : Cal P w K mg base ⟨dkn, tb⟩ 3 "is_deed_value" s_is_deed_value P_is_deed_value S_is_deed_value) : Cal P w K mg base ⟨dkn, tb⟩ 4 "is_script_value" s_is_script_value P_is_script_value S_is_script_value := by
  obtain ⟨f, fd, hm, F, hb⟩ := h
  exact ⟨_, f, fd, hm, F, hb, fn_okD F sc_is_script_value len_is_script_value (fun cdv A outer s H E B hB hr hgd => b_is_script_value G c_is_deed_value cdv A outer s H E B hB hr hgd) m_is_script_value⟩
theorem len_need_script : ∀ cs K', S_need_script cs K' → cs.length = P_need_script.length := by (intro cs K' h; repeat (first | (obtain ⟨e, -⟩ := h; subst e; rfl) | obtain ⟨_, h⟩ := h))
theorem j_need_script (G : Gs K mg) (h : Fx K mg "need_script" "need_script" s_need_script P_need_script) (c_is_script_value : Cal P w K mg base ⟨dkn, tb⟩ 4 "is_script_value" s_is_script_value P_is_script_value S_is_script_value) : Cal P w K mg base ⟨dkn, tb⟩ 5 "need_script" s_need_script P_need_script S_need_script := by
  obtain ⟨f, fd, hm, F, hb⟩ := h
  exact ⟨_, f, fd, hm, F, hb, fn_okD F sc_need_script len_need_script (fun cdv A outer s H E B hB hr hgd => b_need_script G c_is_script_value cdv A outer s H E B hB hr hgd) m_need_script⟩
theorem len_reaches : ∀ cs K', S_reaches cs K' → cs.length = P_reaches.length := by (intro cs K' h; repeat (first | (obtain ⟨e, -⟩ := h; subst e; rfl) | obtain ⟨_, h⟩ := h))
theorem j_reaches (G : Gs K mg) (h : Fx K mg "reaches" "reaches" s_reaches P_reaches) (c_lows : Cal P w K mg base ⟨dkn, tb⟩ 1 "lows" s_lows P_lows S_lows) (c_highs : Cal P w K mg base ⟨dkn, tb⟩ 1 "highs" s_highs P_highs S_highs) : Cal P w K mg base ⟨dkn, tb⟩ 2 "reaches" s_reaches P_reaches S_reaches := by
  obtain ⟨f, fd, hm, F, hb⟩ := h
  exact ⟨_, f, fd, hm, F, hb, fn_okD F sc_reaches len_reaches (fun cdv A outer s H E B hB hr hgd => b_reaches G c_lows c_highs cdv A outer s H E B hB hr hgd) m_reaches⟩
theorem len_reach_mask : ∀ cs K', S_reach_mask cs K' → cs.length = P_reach_mask.length := by (intro cs K' h; repeat (first | (obtain ⟨e, -⟩ := h; subst e; rfl) | obtain ⟨_, h⟩ := h))
theorem j_reach_mask (G : Gs K mg) (h : Fx K mg "reach_mask" "reach_mask" s_reach_mask P_reach_mask) (c_reaches : Cal P w K mg base ⟨dkn, tb⟩ 2 "reaches" s_reaches P_reaches S_reaches) : Cal P w K mg base ⟨dkn, tb⟩ 3 "reach_mask" s_reach_mask P_reach_mask S_reach_mask := by
  obtain ⟨f, fd, hm, F, hb⟩ := h
  exact ⟨_, f, fd, hm, F, hb, fn_okD F sc_reach_mask len_reach_mask (fun cdv A outer s H E B hB hr hgd => b_reach_mask G c_reaches cdv A outer s H E B hB hr hgd) m_reach_mask⟩
theorem len_done : ∀ cs K', S_done cs K' → cs.length = P_done.length := by (intro cs K' h; repeat (first | (obtain ⟨e, -⟩ := h; subst e; rfl) | obtain ⟨_, h⟩ := h))
theorem j_done (G : Gs K mg) (h : Fx K mg "done" "done" s_done P_done) (c_reaches : Cal P w K mg base ⟨dkn, tb⟩ 2 "reaches" s_reaches P_reaches S_reaches) : Cal P w K mg base ⟨dkn, tb⟩ 3 "done" s_done P_done S_done := by
  obtain ⟨f, fd, hm, F, hb⟩ := h
  exact ⟨_, f, fd, hm, F, hb, fn_okD F sc_done len_done (fun cdv A outer s H E B hB hr hgd => b_done G c_reaches cdv A outer s H E B hB hr hgd) m_done⟩
theorem len_couple_masks : ∀ cs K', S_couple_masks cs K' → cs.length = P_couple_masks.length := by (intro cs K' h; repeat (first | (obtain ⟨e, -⟩ := h; subst e; rfl) | obtain ⟨_, h⟩ := h))
theorem j_couple_masks (G : Gs K mg) (h : Fx K mg "couple_masks" "couple_masks" s_couple_masks P_couple_masks) (c_reaches : Cal P w K mg base ⟨dkn, tb⟩ 2 "reaches" s_reaches P_reaches S_reaches) : Cal P w K mg base ⟨dkn, tb⟩ 3 "couple_masks" s_couple_masks P_couple_masks S_couple_masks := by
  obtain ⟨f, fd, hm, F, hb⟩ := h
  exact ⟨_, f, fd, hm, F, hb, fn_okD F sc_couple_masks len_couple_masks (fun cdv A outer s H E B hB hr hgd => b_couple_masks G c_reaches cdv A outer s H E B hB hr hgd) m_couple_masks⟩
theorem len_need_hills : ∀ cs K', S_need_hills cs K' → cs.length = P_need_hills.length := by (intro cs K' h; repeat (first | (obtain ⟨e, -⟩ := h; subst e; rfl) | obtain ⟨_, h⟩ := h))
theorem j_need_hills (G : Gs K mg) (h : Fx K mg "need_hills" "need_hills" s_need_hills P_need_hills) (c_need_hill : Cal P w K mg base ⟨dkn, tb⟩ 6 "need_hill" s_need_hill P_need_hill S_need_hill) : Cal P w K mg base ⟨dkn, tb⟩ 7 "need_hills" s_need_hills P_need_hills S_need_hills := by
  obtain ⟨f, fd, hm, F, hb⟩ := h
  exact ⟨_, f, fd, hm, F, hb, fn_okD F sc_need_hills len_need_hills (fun cdv A outer s H E B hB hr hgd => b_need_hills G c_need_hill cdv A outer s H E B hB hr hgd) m_need_hills⟩
theorem len_is_map_value : ∀ cs K', S_is_map_value cs K' → cs.length = P_is_map_value.length := by (intro cs K' h; repeat (first | (obtain ⟨e, -⟩ := h; subst e; rfl) | obtain ⟨_, h⟩ := h))
theorem j_is_map_value (G : Gs K mg) (h : Fx K mg "is_map_value" "is_map_value" s_is_map_value P_is_map_value) (c_is_between : Cal P w K mg base ⟨dkn, tb⟩ 2 "is_between" s_is_between P_is_between S_is_between) (c_lows : Cal P w K mg base ⟨dkn, tb⟩ 1 "lows" s_lows P_lows S_lows) : Cal P w K mg base ⟨dkn, tb⟩ 3 "is_map_value" s_is_map_value P_is_map_value S_is_map_value := by
  obtain ⟨f, fd, hm, F, hb⟩ := h
  exact ⟨_, f, fd, hm, F, hb, fn_okD F sc_is_map_value len_is_map_value (fun cdv A outer s H E B hB hr hgd => b_is_map_value G c_is_between c_lows cdv A outer s H E B hB hr hgd) m_is_map_value⟩
theorem len_need_map : ∀ cs K', S_need_map cs K' → cs.length = P_need_map.length := by (intro cs K' h; repeat (first | (obtain ⟨e, -⟩ := h; subst e; rfl) | obtain ⟨_, h⟩ := h))
theorem j_need_map (G : Gs K mg) (h : Fx K mg "need_map" "need_map" s_need_map P_need_map) (c_need_hills : Cal P w K mg base ⟨dkn, tb⟩ 7 "need_hills" s_need_hills P_need_hills S_need_hills) (c_is_map_value : Cal P w K mg base ⟨dkn, tb⟩ 3 "is_map_value" s_is_map_value P_is_map_value S_is_map_value) : Cal P w K mg base ⟨dkn, tb⟩ 8 "need_map" s_need_map P_need_map S_need_map := by
  obtain ⟨f, fd, hm, F, hb⟩ := h
  exact ⟨_, f, fd, hm, F, hb, fn_okD F sc_need_map len_need_map (fun cdv A outer s H E B hB hr hgd => b_need_map G c_need_hills c_is_map_value cdv A outer s H E B hB hr hgd) m_need_map⟩
theorem len_need_water_maps : ∀ cs K', S_need_water_maps cs K' → cs.length = P_need_water_maps.length := by (intro cs K' h; repeat (first | (obtain ⟨e, -⟩ := h; subst e; rfl) | obtain ⟨_, h⟩ := h))
theorem j_need_water_maps (G : Gs K mg) (h : Fx K mg "need_water_maps" "need_water" s_need_water_maps P_need_water_maps) (c_is_lower_value : Cal P w K mg base ⟨dkn, tb⟩ 4 "is_lower_value" s_is_lower_value P_is_lower_value S_is_lower_value) : Cal P w K mg base ⟨dkn, tb⟩ 5 "need_water_maps" s_need_water_maps P_need_water_maps S_need_water_maps := by
  obtain ⟨f, fd, hm, F, hb⟩ := h
  exact ⟨_, f, fd, hm, F, hb, fn_okD F sc_need_water_maps len_need_water_maps (fun cdv A outer s H E B hB hr hgd => b_need_water_maps G c_is_lower_value cdv A outer s H E B hB hr hgd) m_need_water_maps⟩
theorem len_carried_mask : ∀ cs K', S_carried_mask cs K' → cs.length = P_carried_mask.length := by (intro cs K' h; repeat (first | (obtain ⟨e, -⟩ := h; subst e; rfl) | obtain ⟨_, h⟩ := h))
theorem j_carried_mask (G : Gs K mg) (h : Fx K mg "carried_mask" "carried_mask" s_carried_mask P_carried_mask) (c_mask_of : Cal P w K mg base ⟨dkn, tb⟩ 1 "mask_of" s_mask_of P_mask_of S_mask_of) : Cal P w K mg base ⟨dkn, tb⟩ 2 "carried_mask" s_carried_mask P_carried_mask S_carried_mask := by
  obtain ⟨f, fd, hm, F, hb⟩ := h
  exact ⟨_, f, fd, hm, F, hb, fn_okD F sc_carried_mask len_carried_mask (fun cdv A outer s H E B hB hr hgd => b_carried_mask G c_mask_of cdv A outer s H E B hB hr hgd) m_carried_mask⟩
theorem len_carried_water : ∀ cs K', S_carried_water cs K' → cs.length = P_carried_water.length := by (intro cs K' h; repeat (first | (obtain ⟨e, -⟩ := h; subst e; rfl) | obtain ⟨_, h⟩ := h))
theorem j_carried_water (G : Gs K mg) (h : Fx K mg "carried_water" "carried_water" s_carried_water P_carried_water) (c_need_map : Cal P w K mg base ⟨dkn, tb⟩ 8 "need_map" s_need_map P_need_map S_need_map) (c_need_water_maps : Cal P w K mg base ⟨dkn, tb⟩ 5 "need_water_maps" s_need_water_maps P_need_water_maps S_need_water_maps) (c_lot_of : Cal P w K mg base ⟨dkn, tb⟩ 1 "lot_of" s_lot_of P_lot_of S_lot_of) (c_carried_mask : Cal P w K mg base ⟨dkn, tb⟩ 2 "carried_mask" s_carried_mask P_carried_mask S_carried_mask) (c_mask_of : Cal P w K mg base ⟨dkn, tb⟩ 1 "mask_of" s_mask_of P_mask_of S_mask_of) : Cal P w K mg base ⟨dkn, tb⟩ 9 "carried_water" s_carried_water P_carried_water S_carried_water := by
  obtain ⟨f, fd, hm, F, hb⟩ := h
  exact ⟨_, f, fd, hm, F, hb, fn_okD F sc_carried_water len_carried_water (fun cdv A outer s H E B hB hr hgd => b_carried_water G c_need_map c_need_water_maps c_lot_of c_carried_mask c_mask_of cdv A outer s H E B hB hr hgd) m_carried_water⟩
theorem len_carried_terraces : ∀ cs K', S_carried_terraces cs K' → cs.length = P_carried_terraces.length := by (intro cs K' h; repeat (first | (obtain ⟨e, -⟩ := h; subst e; rfl) | obtain ⟨_, h⟩ := h))
theorem j_carried_terraces (G : Gs K mg) (h : Fx K mg "carried_terraces" "carried_terraces" s_carried_terraces P_carried_terraces) (c_carried_mask : Cal P w K mg base ⟨dkn, tb⟩ 2 "carried_mask" s_carried_mask P_carried_mask S_carried_mask) (c_reach_mask : Cal P w K mg base ⟨dkn, tb⟩ 3 "reach_mask" s_reach_mask P_reach_mask S_reach_mask) (c_highest_of : Cal P w K mg base ⟨dkn, tb⟩ 3 "highest_of" s_highest_of P_highest_of S_highest_of) (c_lowest_of : Cal P w K mg base ⟨dkn, tb⟩ 3 "lowest_of" s_lowest_of P_lowest_of S_lowest_of) : Cal P w K mg base ⟨dkn, tb⟩ 4 "carried_terraces" s_carried_terraces P_carried_terraces S_carried_terraces := by
  obtain ⟨f, fd, hm, F, hb⟩ := h
  exact ⟨_, f, fd, hm, F, hb, fn_okD F sc_carried_terraces len_carried_terraces (fun cdv A outer s H E B hB hr hgd => b_carried_terraces G c_carried_mask c_reach_mask c_highest_of c_lowest_of cdv A outer s H E B hB hr hgd) m_carried_terraces⟩
theorem len_deeds_carried : ∀ cs K', S_deeds_carried cs K' → cs.length = P_deeds_carried.length := by (intro cs K' h; repeat (first | (obtain ⟨e, -⟩ := h; subst e; rfl) | obtain ⟨_, h⟩ := h))
theorem j_deeds_carried (G : Gs K mg) (h : Fx K mg "deeds_carried" "deeds_carried" s_deeds_carried P_deeds_carried) (c_carried_terraces : Cal P w K mg base ⟨dkn, tb⟩ 4 "carried_terraces" s_carried_terraces P_carried_terraces S_carried_terraces) : Cal P w K mg base ⟨dkn, tb⟩ 5 "deeds_carried" s_deeds_carried P_deeds_carried S_deeds_carried := by
  obtain ⟨f, fd, hm, F, hb⟩ := h
  exact ⟨_, f, fd, hm, F, hb, fn_okD F sc_deeds_carried len_deeds_carried (fun cdv A outer s H E B hB hr hgd => b_deeds_carried G c_carried_terraces cdv A outer s H E B hB hr hgd) m_deeds_carried⟩
theorem len_carried_deed : ∀ cs K', S_carried_deed cs K' → cs.length = P_carried_deed.length := by (intro cs K' h; repeat (first | (obtain ⟨e, -⟩ := h; subst e; rfl) | obtain ⟨_, h⟩ := h))
theorem j_carried_deed (G : Gs K mg) (h : Fx K mg "carried_deed" "carried_deed" s_carried_deed P_carried_deed) (c_need_map : Cal P w K mg base ⟨dkn, tb⟩ 8 "need_map" s_need_map P_need_map S_need_map) (c_is_deed_value : Cal P w K mg base ⟨dkn, tb⟩ 3 "is_deed_value" s_is_deed_value P_is_deed_value S_is_deed_value) (c_deeds_carried : Cal P w K mg base ⟨dkn, tb⟩ 5 "deeds_carried" s_deeds_carried P_deeds_carried S_deeds_carried) : Cal P w K mg base ⟨dkn, tb⟩ 9 "carried_deed" s_carried_deed P_carried_deed S_carried_deed := by
  obtain ⟨f, fd, hm, F, hb⟩ := h
  exact ⟨_, f, fd, hm, F, hb, fn_okD F sc_carried_deed len_carried_deed (fun cdv A outer s H E B hB hr hgd => b_carried_deed G c_need_map c_is_deed_value c_deeds_carried cdv A outer s H E B hB hr hgd) m_carried_deed⟩
theorem len_carried_script : ∀ cs K', S_carried_script cs K' → cs.length = P_carried_script.length := by (intro cs K' h; repeat (first | (obtain ⟨e, -⟩ := h; subst e; rfl) | obtain ⟨_, h⟩ := h))
theorem j_carried_script (G : Gs K mg) (h : Fx K mg "carried_script" "carried_script" s_carried_script P_carried_script) (c_need_map : Cal P w K mg base ⟨dkn, tb⟩ 8 "need_map" s_need_map P_need_map S_need_map) (c_is_script_value : Cal P w K mg base ⟨dkn, tb⟩ 4 "is_script_value" s_is_script_value P_is_script_value S_is_script_value) (c_deeds_carried : Cal P w K mg base ⟨dkn, tb⟩ 5 "deeds_carried" s_deeds_carried P_deeds_carried S_deeds_carried) : Cal P w K mg base ⟨dkn, tb⟩ 9 "carried_script" s_carried_script P_carried_script S_carried_script := by
  obtain ⟨f, fd, hm, F, hb⟩ := h
  exact ⟨_, f, fd, hm, F, hb, fn_okD F sc_carried_script len_carried_script (fun cdv A outer s H E B hB hr hgd => b_carried_script G c_need_map c_is_script_value c_deeds_carried cdv A outer s H E B hB hr hgd) m_carried_script⟩
theorem len_is_water : ∀ cs K', S_is_water cs K' → cs.length = P_is_water.length := by (intro cs K' h; repeat (first | (obtain ⟨e, -⟩ := h; subst e; rfl) | obtain ⟨_, h⟩ := h))
theorem j_is_water (G : Gs K mg) (h : Fx K mg "is_water" "is_water" s_is_water P_is_water) (c_need_hill : Cal P w K mg base ⟨dkn, tb⟩ 6 "need_hill" s_need_hill P_need_hill S_need_hill) (c_is_lower_value : Cal P w K mg base ⟨dkn, tb⟩ 4 "is_lower_value" s_is_lower_value P_is_lower_value S_is_lower_value) : Cal P w K mg base ⟨dkn, tb⟩ 7 "is_water" s_is_water P_is_water S_is_water := by
  obtain ⟨f, fd, hm, F, hb⟩ := h
  exact ⟨_, f, fd, hm, F, hb, fn_okD F sc_is_water len_is_water (fun cdv A outer s H E B hB hr hgd => b_is_water G c_need_hill c_is_lower_value cdv A outer s H E B hB hr hgd) m_is_water⟩
theorem len_need_water_scripts : ∀ cs K', S_need_water_scripts cs K' → cs.length = P_need_water_scripts.length := by (intro cs K' h; repeat (first | (obtain ⟨e, -⟩ := h; subst e; rfl) | obtain ⟨_, h⟩ := h))
theorem j_need_water_scripts (G : Gs K mg) (h : Fx K mg "need_water_scripts" "need_water" s_need_water_scripts P_need_water_scripts) (c_need_hill : Cal P w K mg base ⟨dkn, tb⟩ 6 "need_hill" s_need_hill P_need_hill S_need_hill) (c_is_lower_value : Cal P w K mg base ⟨dkn, tb⟩ 4 "is_lower_value" s_is_lower_value P_is_lower_value S_is_lower_value) : Cal P w K mg base ⟨dkn, tb⟩ 7 "need_water_scripts" s_need_water_scripts P_need_water_scripts S_need_water_scripts := by
  obtain ⟨f, fd, hm, F, hb⟩ := h
  exact ⟨_, f, fd, hm, F, hb, fn_okD F sc_need_water_scripts len_need_water_scripts (fun cdv A outer s H E B hB hr hgd => b_need_water_scripts G c_need_hill c_is_lower_value cdv A outer s H E B hB hr hgd) m_need_water_scripts⟩
theorem len_reach : ∀ cs K', S_reach cs K' → cs.length = P_reach.length := by (intro cs K' h; repeat (first | (obtain ⟨e, -⟩ := h; subst e; rfl) | obtain ⟨_, h⟩ := h))
theorem j_reach (G : Gs K mg) (h : Fx K mg "reach" "reach" s_reach P_reach) (c_need_hill : Cal P w K mg base ⟨dkn, tb⟩ 6 "need_hill" s_need_hill P_need_hill S_need_hill) (c_is_deed_value : Cal P w K mg base ⟨dkn, tb⟩ 3 "is_deed_value" s_is_deed_value P_is_deed_value S_is_deed_value) (c_lot_of : Cal P w K mg base ⟨dkn, tb⟩ 1 "lot_of" s_lot_of P_lot_of S_lot_of) (c_reach_mask : Cal P w K mg base ⟨dkn, tb⟩ 3 "reach_mask" s_reach_mask P_reach_mask S_reach_mask) : Cal P w K mg base ⟨dkn, tb⟩ 7 "reach" s_reach P_reach S_reach := by
  obtain ⟨f, fd, hm, F, hb⟩ := h
  exact ⟨_, f, fd, hm, F, hb, fn_okD F sc_reach len_reach (fun cdv A outer s H E B hB hr hgd => b_reach G c_need_hill c_is_deed_value c_lot_of c_reach_mask cdv A outer s H E B hB hr hgd) m_reach⟩
theorem len_run : ∀ cs K', S_run cs K' → cs.length = P_run.length := by (intro cs K' h; repeat (first | (obtain ⟨e, -⟩ := h; subst e; rfl) | obtain ⟨_, h⟩ := h))
theorem j_run (G : Gs K mg) (h : Fx K mg "run" "run" s_run P_run) (c_need_water_scripts : Cal P w K mg base ⟨dkn, tb⟩ 7 "need_water_scripts" s_need_water_scripts P_need_water_scripts S_need_water_scripts) (c_need_script : Cal P w K mg base ⟨dkn, tb⟩ 5 "need_script" s_need_script P_need_script S_need_script) (c_lot_of : Cal P w K mg base ⟨dkn, tb⟩ 1 "lot_of" s_lot_of P_lot_of S_lot_of) (c_done : Cal P w K mg base ⟨dkn, tb⟩ 3 "done" s_done P_done S_done) (c_mask_of : Cal P w K mg base ⟨dkn, tb⟩ 1 "mask_of" s_mask_of P_mask_of S_mask_of) : Cal P w K mg base ⟨dkn, tb⟩ 8 "run" s_run P_run S_run := by
  obtain ⟨f, fd, hm, F, hb⟩ := h
  exact ⟨_, f, fd, hm, F, hb, fn_okD F sc_run len_run (fun cdv A outer s H E B hB hr hgd => b_run G c_need_water_scripts c_need_script c_lot_of c_done c_mask_of cdv A outer s H E B hB hr hgd) m_run⟩
theorem len_raw_couple : ∀ cs K', S_raw_couple cs K' → cs.length = P_raw_couple.length := by (intro cs K' h; repeat (first | (obtain ⟨e, -⟩ := h; subst e; rfl) | obtain ⟨_, h⟩ := h))
theorem j_raw_couple (G : Gs K mg) (h : Fx K mg "raw_couple" "raw_couple" s_raw_couple P_raw_couple) (c_couple_masks : Cal P w K mg base ⟨dkn, tb⟩ 3 "couple_masks" s_couple_masks P_couple_masks S_couple_masks) (c_lot_of : Cal P w K mg base ⟨dkn, tb⟩ 1 "lot_of" s_lot_of P_lot_of S_lot_of) : Cal P w K mg base ⟨dkn, tb⟩ 4 "raw_couple" s_raw_couple P_raw_couple S_raw_couple := by
  obtain ⟨f, fd, hm, F, hb⟩ := h
  exact ⟨_, f, fd, hm, F, hb, fn_okD F sc_raw_couple len_raw_couple (fun cdv A outer s H E B hB hr hgd => b_raw_couple G c_couple_masks c_lot_of cdv A outer s H E B hB hr hgd) m_raw_couple⟩
theorem len_couple_of : ∀ cs K', S_couple_of cs K' → cs.length = P_couple_of.length := by (intro cs K' h; repeat (first | (obtain ⟨e, -⟩ := h; subst e; rfl) | obtain ⟨_, h⟩ := h))
theorem j_couple_of (G : Gs K mg) (h : Fx K mg "couple_of" "couple_of" s_couple_of P_couple_of) (c_need_hill : Cal P w K mg base ⟨dkn, tb⟩ 6 "need_hill" s_need_hill P_need_hill S_need_hill) (c_need_script : Cal P w K mg base ⟨dkn, tb⟩ 5 "need_script" s_need_script P_need_script S_need_script) (c_raw_couple : Cal P w K mg base ⟨dkn, tb⟩ 4 "raw_couple" s_raw_couple P_raw_couple S_raw_couple) : Cal P w K mg base ⟨dkn, tb⟩ 7 "couple_of" s_couple_of P_couple_of S_couple_of := by
  obtain ⟨f, fd, hm, F, hb⟩ := h
  exact ⟨_, f, fd, hm, F, hb, fn_okD F sc_couple_of len_couple_of (fun cdv A outer s H E B hB hr hgd => b_couple_of G c_need_hill c_need_script c_raw_couple cdv A outer s H E B hB hr hgd) m_couple_of⟩
theorem len__law_deck : ∀ cs K', S_deck cs K' → cs.length = P__law_deck.length := by (intro cs K' h; repeat (first | (obtain ⟨e, -⟩ := h; subst e; rfl) | obtain ⟨_, h⟩ := h))
theorem j__law_deck (G : Gs K mg) (h : Fx K mg "_law_deck" "_law_deck" s__law_deck P__law_deck) : Cal P w K mg base ⟨dkn, tb⟩ 1 "_law_deck" s__law_deck P__law_deck S_deck := by
  obtain ⟨f, fd, hm, F, hb⟩ := h
  exact ⟨_, f, fd, hm, F, hb, fn_okD F sc__law_deck len__law_deck (fun cdv A outer s H E B hB hr hgd => b__law_deck G cdv A outer s H E B hB hr hgd) m_deck⟩
theorem j__law_draw (G : Gs K mg) (h : Fx K mg "_law_draw" "_law_draw" s__law_draw P__law_draw) : Cal P w K mg base ⟨dkn, tb⟩ 1 "_law_draw" s__law_draw P__law_draw S_draw := by
  obtain ⟨f, fd, hm, F, hb⟩ := h
  exact ⟨_, f, fd, hm, F, hb, FnG.of (ok__law_draw F G)⟩
theorem len__law_pick : ∀ cs K', S_pick cs K' → cs.length = P__law_pick.length := by (rintro cs K' ⟨ds, rfl | rfl, _⟩ <;> rfl)
theorem j__law_pick (G : Gs K mg) (h : Fx K mg "_law_pick" "_law_pick" s__law_pick P__law_pick) (c__law_draw : Cal P w K mg base ⟨dkn, tb⟩ 1 "_law_draw" s__law_draw P__law_draw S_draw) : Cal P w K mg base ⟨dkn, tb⟩ 2 "_law_pick" s__law_pick P__law_pick S_pick := by
  obtain ⟨f, fd, hm, F, hb⟩ := h
  exact ⟨_, f, fd, hm, F, hb, fn_okD F sc__law_pick len__law_pick (fun cdv A outer s H E B hB hr hgd => b__law_pick G c__law_draw cdv A outer s H E B hB hr hgd) m_pick⟩
theorem len__law_shuffled : ∀ cs K', S_shuffled cs K' → cs.length = P__law_shuffled.length := by (intro cs K' h; repeat (first | (obtain ⟨e, -⟩ := h; subst e; rfl) | obtain ⟨_, h⟩ := h))
theorem j__law_shuffled (G : Gs K mg) (h : Fx K mg "_law_shuffled" "_law_shuffled" s__law_shuffled P__law_shuffled) (c__law_draw : Cal P w K mg base ⟨dkn, tb⟩ 1 "_law_draw" s__law_draw P__law_draw S_draw) : Cal P w K mg base ⟨dkn, tb⟩ 2 "_law_shuffled" s__law_shuffled P__law_shuffled S_shuffled := by
  obtain ⟨f, fd, hm, F, hb⟩ := h
  exact ⟨_, f, fd, hm, F, hb, fn_okD F sc__law_shuffled len__law_shuffled (fun cdv A outer s H E B hB hr hgd => b__law_shuffled G c__law_draw cdv A outer s H E B hB hr hgd) m_shuffled⟩
theorem len__law_closed : ∀ cs K', S_lclosed cs K' → cs.length = P__law_closed.length := by (intro cs K' h; repeat (first | (obtain ⟨e, -⟩ := h; subst e; rfl) | obtain ⟨_, h⟩ := h))
theorem j__law_closed (G : Gs K mg) (h : Fx K mg "_law_closed" "_law_closed" s__law_closed P__law_closed) : Cal P w K mg base ⟨dkn, tb⟩ 1 "_law_closed" s__law_closed P__law_closed S_lclosed := by
  obtain ⟨f, fd, hm, F, hb⟩ := h
  exact ⟨_, f, fd, hm, F, hb, fn_okD F sc__law_closed len__law_closed (fun cdv A outer s H E B hB hr hgd => b__law_closed G cdv A outer s H E B hB hr hgd) m_lclosed⟩
theorem len__law_hill : ∀ cs K', S_hill cs K' → cs.length = P__law_hill.length := by (intro cs K' h; repeat (first | (obtain ⟨e, -⟩ := h; subst e; rfl) | obtain ⟨_, h⟩ := h))
theorem j__law_hill (G : Gs K mg) (h : Fx K mg "_law_hill" "_law_hill" s__law_hill P__law_hill) (c__law_draw : Cal P w K mg base ⟨dkn, tb⟩ 1 "_law_draw" s__law_draw P__law_draw S_draw) (c__law_shuffled : Cal P w K mg base ⟨dkn, tb⟩ 2 "_law_shuffled" s__law_shuffled P__law_shuffled S_shuffled) (c__law_closed : Cal P w K mg base ⟨dkn, tb⟩ 1 "_law_closed" s__law_closed P__law_closed S_lclosed) : Cal P w K mg base ⟨dkn, tb⟩ 3 "_law_hill" s__law_hill P__law_hill S_hill := by
  obtain ⟨f, fd, hm, F, hb⟩ := h
  exact ⟨_, f, fd, hm, F, hb, fn_okD F sc__law_hill len__law_hill (fun cdv A outer s H E B hB hr hgd => b__law_hill G c__law_draw c__law_shuffled c__law_closed cdv A outer s H E B hB hr hgd) m_hill⟩
theorem len__law_sides : ∀ cs K', S_sides cs K' → cs.length = P__law_sides.length := by (intro cs K' h; repeat (first | (obtain ⟨e, -⟩ := h; subst e; rfl) | obtain ⟨_, h⟩ := h))
theorem j__law_sides (G : Gs K mg) (h : Fx K mg "_law_sides" "_law_sides" s__law_sides P__law_sides) : Cal P w K mg base ⟨dkn, tb⟩ 1 "_law_sides" s__law_sides P__law_sides S_sides := by
  obtain ⟨f, fd, hm, F, hb⟩ := h
  exact ⟨_, f, fd, hm, F, hb, fn_okD F sc__law_sides len__law_sides (fun cdv A outer s H E B hB hr hgd => b__law_sides G cdv A outer s H E B hB hr hgd) m_sides⟩
theorem len__law_closing : ∀ cs K', S_lclosing cs K' → cs.length = P__law_closing.length := by (intro cs K' h; repeat (first | (obtain ⟨e, -⟩ := h; subst e; rfl) | obtain ⟨_, h⟩ := h))
theorem j__law_closing (G : Gs K mg) (h : Fx K mg "_law_closing" "_law_closing" s__law_closing P__law_closing) : Cal P w K mg base ⟨dkn, tb⟩ 1 "_law_closing" s__law_closing P__law_closing S_lclosing := by
  obtain ⟨f, fd, hm, F, hb⟩ := h
  exact ⟨_, f, fd, hm, F, hb, fn_okD F sc__law_closing len__law_closing (fun cdv A outer s H E B hB hr hgd => b__law_closing G cdv A outer s H E B hB hr hgd) m_lclosing⟩
theorem len__law_outer : ∀ cs K', S_outer cs K' → cs.length = P__law_outer.length := by (intro cs K' h; repeat (first | (obtain ⟨e, -⟩ := h; subst e; rfl) | obtain ⟨_, h⟩ := h))
theorem j__law_outer (G : Gs K mg) (h : Fx K mg "_law_outer" "_law_outer" s__law_outer P__law_outer) : Cal P w K mg base ⟨dkn, tb⟩ 1 "_law_outer" s__law_outer P__law_outer S_outer := by
  obtain ⟨f, fd, hm, F, hb⟩ := h
  exact ⟨_, f, fd, hm, F, hb, fn_okD F sc__law_outer len__law_outer (fun cdv A outer s H E B hB hr hgd => b__law_outer G cdv A outer s H E B hB hr hgd) m_outer⟩
theorem len__law_lasts : ∀ cs K', S_lasts cs K' → cs.length = P__law_lasts.length := by (intro cs K' h; repeat (first | (obtain ⟨e, -⟩ := h; subst e; rfl) | obtain ⟨_, h⟩ := h))
theorem j__law_lasts (G : Gs K mg) (h : Fx K mg "_law_lasts" "_law_lasts" s__law_lasts P__law_lasts) : Cal P w K mg base ⟨dkn, tb⟩ 1 "_law_lasts" s__law_lasts P__law_lasts S_lasts := by
  obtain ⟨f, fd, hm, F, hb⟩ := h
  exact ⟨_, f, fd, hm, F, hb, fn_okD F sc__law_lasts len__law_lasts (fun cdv A outer s H E B hB hr hgd => b__law_lasts G cdv A outer s H E B hB hr hgd) m_lasts⟩
theorem len__law_couple : ∀ cs K', S_lcouple cs K' → cs.length = P__law_couple.length := by (intro cs K' h; repeat (first | (obtain ⟨e, -⟩ := h; subst e; rfl) | obtain ⟨_, h⟩ := h))
theorem j__law_couple (G : Gs K mg) (h : Fx K mg "_law_couple" "_law_couple" s__law_couple P__law_couple) (c__law_lasts : Cal P w K mg base ⟨dkn, tb⟩ 1 "_law_lasts" s__law_lasts P__law_lasts S_lasts) : Cal P w K mg base ⟨dkn, tb⟩ 2 "_law_couple" s__law_couple P__law_couple S_lcouple := by
  obtain ⟨f, fd, hm, F, hb⟩ := h
  exact ⟨_, f, fd, hm, F, hb, fn_okD F sc__law_couple len__law_couple (fun cdv A outer s H E B hB hr hgd => b__law_couple G c__law_lasts cdv A outer s H E B hB hr hgd) m_lcouple⟩
theorem len__law_script : ∀ cs K', S_lscript cs K' → cs.length = P__law_script.length := by (intro cs K' h; repeat (first | (obtain ⟨e, -⟩ := h; subst e; rfl) | obtain ⟨_, h⟩ := h))
theorem j__law_script (G : Gs K mg) (h : Fx K mg "_law_script" "_law_script" s__law_script P__law_script) (c__law_draw : Cal P w K mg base ⟨dkn, tb⟩ 1 "_law_draw" s__law_draw P__law_draw S_draw) (c__law_pick : Cal P w K mg base ⟨dkn, tb⟩ 2 "_law_pick" s__law_pick P__law_pick S_pick) : Cal P w K mg base ⟨dkn, tb⟩ 3 "_law_script" s__law_script P__law_script S_lscript := by
  obtain ⟨f, fd, hm, F, hb⟩ := h
  exact ⟨_, f, fd, hm, F, hb, fn_okD F sc__law_script len__law_script (fun cdv A outer s H E B hB hr hgd => b__law_script G c__law_draw c__law_pick cdv A outer s H E B hB hr hgd) m_lscript⟩
theorem len__law_lot : ∀ cs K', S_llot cs K' → cs.length = P__law_lot.length := by (intro cs K' h; repeat (first | (obtain ⟨e, -⟩ := h; subst e; rfl) | obtain ⟨_, h⟩ := h))
theorem j__law_lot (G : Gs K mg) (h : Fx K mg "_law_lot" "_law_lot" s__law_lot P__law_lot) (c__law_pick : Cal P w K mg base ⟨dkn, tb⟩ 2 "_law_pick" s__law_pick P__law_pick S_pick) (c__law_draw : Cal P w K mg base ⟨dkn, tb⟩ 1 "_law_draw" s__law_draw P__law_draw S_draw) : Cal P w K mg base ⟨dkn, tb⟩ 3 "_law_lot" s__law_lot P__law_lot S_llot := by
  obtain ⟨f, fd, hm, F, hb⟩ := h
  exact ⟨_, f, fd, hm, F, hb, fn_okD F sc__law_lot len__law_lot (fun cdv A outer s H E B hB hr hgd => b__law_lot G c__law_pick c__law_draw cdv A outer s H E B hB hr hgd) m_llot⟩
theorem len__law_led : ∀ cs K', S_led cs K' → cs.length = P__law_led.length := by (intro cs K' h; repeat (first | (obtain ⟨e, -⟩ := h; subst e; rfl) | obtain ⟨_, h⟩ := h))
theorem j__law_led (G : Gs K mg) (h : Fx K mg "_law_led" "_law_led" s__law_led P__law_led) (c__law_draw : Cal P w K mg base ⟨dkn, tb⟩ 1 "_law_draw" s__law_draw P__law_draw S_draw) (c__law_closed : Cal P w K mg base ⟨dkn, tb⟩ 1 "_law_closed" s__law_closed P__law_closed S_lclosed) : Cal P w K mg base ⟨dkn, tb⟩ 2 "_law_led" s__law_led P__law_led S_led := by
  obtain ⟨f, fd, hm, F, hb⟩ := h
  exact ⟨_, f, fd, hm, F, hb, fn_okD F sc__law_led len__law_led (fun cdv A outer s H E B hB hr hgd => b__law_led G c__law_draw c__law_closed cdv A outer s H E B hB hr hgd) m_led⟩
theorem len__law_leading : ∀ cs K', S_leading cs K' → cs.length = P__law_leading.length := by (intro cs K' h; repeat (first | (obtain ⟨e, -⟩ := h; subst e; rfl) | obtain ⟨_, h⟩ := h))
theorem j__law_leading (G : Gs K mg) (h : Fx K mg "_law_leading" "_law_leading" s__law_leading P__law_leading) (c__law_draw : Cal P w K mg base ⟨dkn, tb⟩ 1 "_law_draw" s__law_draw P__law_draw S_draw) (c__law_sides : Cal P w K mg base ⟨dkn, tb⟩ 1 "_law_sides" s__law_sides P__law_sides S_sides) (c__law_closed : Cal P w K mg base ⟨dkn, tb⟩ 1 "_law_closed" s__law_closed P__law_closed S_lclosed) : Cal P w K mg base ⟨dkn, tb⟩ 2 "_law_leading" s__law_leading P__law_leading S_leading := by
  obtain ⟨f, fd, hm, F, hb⟩ := h
  exact ⟨_, f, fd, hm, F, hb, fn_okD F sc__law_leading len__law_leading (fun cdv A outer s H E B hB hr hgd => b__law_leading G c__law_draw c__law_sides c__law_closed cdv A outer s H E B hB hr hgd) m_leading⟩
theorem len__law_mapped : ∀ cs K', S_mapped cs K' → cs.length = P__law_mapped.length := by (intro cs K' h; repeat (first | (obtain ⟨e, -⟩ := h; subst e; rfl) | obtain ⟨_, h⟩ := h))
theorem j__law_mapped (G : Gs K mg) (h : Fx K mg "_law_mapped" "_law_mapped" s__law_mapped P__law_mapped) (c__law_draw : Cal P w K mg base ⟨dkn, tb⟩ 1 "_law_draw" s__law_draw P__law_draw S_draw) (c__law_hill : Cal P w K mg base ⟨dkn, tb⟩ 3 "_law_hill" s__law_hill P__law_hill S_hill) (c__law_led : Cal P w K mg base ⟨dkn, tb⟩ 2 "_law_led" s__law_led P__law_led S_led) (c__law_leading : Cal P w K mg base ⟨dkn, tb⟩ 2 "_law_leading" s__law_leading P__law_leading S_leading) : Cal P w K mg base ⟨dkn, tb⟩ 4 "_law_mapped" s__law_mapped P__law_mapped S_mapped := by
  obtain ⟨f, fd, hm, F, hb⟩ := h
  exact ⟨_, f, fd, hm, F, hb, fn_okD F sc__law_mapped len__law_mapped (fun cdv A outer s H E B hB hr hgd => b__law_mapped G c__law_draw c__law_hill c__law_led c__law_leading cdv A outer s H E B hB hr hgd) m_mapped⟩
theorem len__law_carried : ∀ cs K', S_lcarried cs K' → cs.length = P__law_carried.length := by (intro cs K' h; repeat (first | (obtain ⟨e, -⟩ := h; subst e; rfl) | obtain ⟨_, h⟩ := h))
theorem j__law_carried (G : Gs K mg) (h : Fx K mg "_law_carried" "_law_carried" s__law_carried P__law_carried) : Cal P w K mg base ⟨dkn, tb⟩ 1 "_law_carried" s__law_carried P__law_carried S_lcarried := by
  obtain ⟨f, fd, hm, F, hb⟩ := h
  exact ⟨_, f, fd, hm, F, hb, fn_okD F sc__law_carried len__law_carried (fun cdv A outer s H E B hB hr hgd => b__law_carried G cdv A outer s H E B hB hr hgd) m_lcarried⟩
theorem len__law_due : ∀ cs K', S_ldue cs K' → cs.length = P__law_due.length := by (intro cs K' h; repeat (first | (obtain ⟨e, -⟩ := h; subst e; rfl) | obtain ⟨_, h⟩ := h))
theorem j__law_due (G : Gs K mg) (h : Fx K mg "_law_due" "_law_due" s__law_due P__law_due) (c__law_carried : Cal P w K mg base ⟨dkn, tb⟩ 1 "_law_carried" s__law_carried P__law_carried S_lcarried) (c__law_sides : Cal P w K mg base ⟨dkn, tb⟩ 1 "_law_sides" s__law_sides P__law_sides S_sides) (c__law_outer : Cal P w K mg base ⟨dkn, tb⟩ 1 "_law_outer" s__law_outer P__law_outer S_outer) : Cal P w K mg base ⟨dkn, tb⟩ 2 "_law_due" s__law_due P__law_due S_ldue := by
  obtain ⟨f, fd, hm, F, hb⟩ := h
  exact ⟨_, f, fd, hm, F, hb, fn_okD F sc__law_due len__law_due (fun cdv A outer s H E B hB hr hgd => b__law_due G c__law_carried c__law_sides c__law_outer cdv A outer s H E B hB hr hgd) m_ldue⟩
theorem len__law_are_deeds_right : ∀ cs K', S_deedsR cs K' → cs.length = P__law_are_deeds_right.length := by (intro cs K' h; repeat (first | (obtain ⟨e, -⟩ := h; subst e; rfl) | obtain ⟨_, h⟩ := h))
theorem j__law_are_deeds_right (G : Gs K mg) (h : Fx K mg "_law_are_deeds_right" "_law_are_deeds_right" s__law_are_deeds_right P__law_are_deeds_right) (c__law_due : Cal P w K mg base ⟨dkn, tb⟩ 2 "_law_due" s__law_due P__law_due S_ldue) (c_carried_deed : Cal P w K mg base ⟨dkn, tb⟩ 9 "carried_deed" s_carried_deed P_carried_deed S_carried_deed) (c_reach : Cal P w K mg base ⟨dkn, tb⟩ 7 "reach" s_reach P_reach S_reach) (c__law_carried : Cal P w K mg base ⟨dkn, tb⟩ 1 "_law_carried" s__law_carried P__law_carried S_lcarried) (c_carried_script : Cal P w K mg base ⟨dkn, tb⟩ 9 "carried_script" s_carried_script P_carried_script S_carried_script) : Cal P w K mg base ⟨dkn, tb⟩ 10 "_law_are_deeds_right" s__law_are_deeds_right P__law_are_deeds_right S_deedsR := by
  obtain ⟨f, fd, hm, F, hb⟩ := h
  exact ⟨_, f, fd, hm, F, hb, fn_okD F sc__law_are_deeds_right len__law_are_deeds_right (fun cdv A outer s H E B hB hr hgd => b__law_are_deeds_right G c__law_due c_carried_deed c_reach c__law_carried c_carried_script cdv A outer s H E B hB hr hgd) m_deedsR⟩
theorem len__law_told_couple : ∀ cs K', S_told cs K' → cs.length = P__law_told_couple.length := by (intro cs K' h; repeat (first | (obtain ⟨e, -⟩ := h; subst e; rfl) | obtain ⟨_, h⟩ := h))
theorem j__law_told_couple (G : Gs K mg) (h : Fx K mg "_law_told_couple" "_law_told_couple" s__law_told_couple P__law_told_couple) (c_couple_of : Cal P w K mg base ⟨dkn, tb⟩ 7 "couple_of" s_couple_of P_couple_of S_couple_of) (c__law_couple : Cal P w K mg base ⟨dkn, tb⟩ 2 "_law_couple" s__law_couple P__law_couple S_lcouple) (c__law_sides : Cal P w K mg base ⟨dkn, tb⟩ 1 "_law_sides" s__law_sides P__law_sides S_sides) : Cal P w K mg base ⟨dkn, tb⟩ 8 "_law_told_couple" s__law_told_couple P__law_told_couple S_told := by
  obtain ⟨f, fd, hm, F, hb⟩ := h
  exact ⟨_, f, fd, hm, F, hb, fn_okD F sc__law_told_couple len__law_told_couple (fun cdv A outer s H E B hB hr hgd => b__law_told_couple G c_couple_of c__law_couple c__law_sides cdv A outer s H E B hB hr hgd) m_told⟩
theorem len__law_is_led_right : ∀ cs K', S_ledR cs K' → cs.length = P__law_is_led_right.length := by (intro cs K' h; repeat (first | (obtain ⟨e, -⟩ := h; subst e; rfl) | obtain ⟨_, h⟩ := h))
theorem j__law_is_led_right (G : Gs K mg) (h : Fx K mg "_law_is_led_right" "_law_is_led_right" s__law_is_led_right P__law_is_led_right) (c_carried_water : Cal P w K mg base ⟨dkn, tb⟩ 9 "carried_water" s_carried_water P_carried_water S_carried_water) (c_carried_script : Cal P w K mg base ⟨dkn, tb⟩ 9 "carried_script" s_carried_script P_carried_script S_carried_script) (c__law_carried : Cal P w K mg base ⟨dkn, tb⟩ 1 "_law_carried" s__law_carried P__law_carried S_lcarried) (c_is_water : Cal P w K mg base ⟨dkn, tb⟩ 7 "is_water" s_is_water P_is_water S_is_water) (c_run : Cal P w K mg base ⟨dkn, tb⟩ 8 "run" s_run P_run S_run) (c__law_couple : Cal P w K mg base ⟨dkn, tb⟩ 2 "_law_couple" s__law_couple P__law_couple S_lcouple) (c__law_sides : Cal P w K mg base ⟨dkn, tb⟩ 1 "_law_sides" s__law_sides P__law_sides S_sides) (c__law_told_couple : Cal P w K mg base ⟨dkn, tb⟩ 8 "_law_told_couple" s__law_told_couple P__law_told_couple S_told) (c_couple_of : Cal P w K mg base ⟨dkn, tb⟩ 7 "couple_of" s_couple_of P_couple_of S_couple_of) : Cal P w K mg base ⟨dkn, tb⟩ 10 "_law_is_led_right" s__law_is_led_right P__law_is_led_right S_ledR := by
  obtain ⟨f, fd, hm, F, hb⟩ := h
  exact ⟨_, f, fd, hm, F, hb, fn_okD F sc__law_is_led_right len__law_is_led_right (fun cdv A outer s H E B hB hr hgd => b__law_is_led_right G c_carried_water c_carried_script c__law_carried c_is_water c_run c__law_couple c__law_sides c__law_told_couple c_couple_of cdv A outer s H E B hB hr hgd) m_ledR⟩
theorem len__law_is_twice_right : ∀ cs K', S_twiceR cs K' → cs.length = P__law_is_twice_right.length := by (intro cs K' h; repeat (first | (obtain ⟨e, -⟩ := h; subst e; rfl) | obtain ⟨_, h⟩ := h))
theorem j__law_is_twice_right (G : Gs K mg) (h : Fx K mg "_law_is_twice_right" "_law_is_twice_right" s__law_is_twice_right P__law_is_twice_right) (c_carried_script : Cal P w K mg base ⟨dkn, tb⟩ 9 "carried_script" s_carried_script P_carried_script S_carried_script) (c_carried_water : Cal P w K mg base ⟨dkn, tb⟩ 9 "carried_water" s_carried_water P_carried_water S_carried_water) (c__law_told_couple : Cal P w K mg base ⟨dkn, tb⟩ 8 "_law_told_couple" s__law_told_couple P__law_told_couple S_told) : Cal P w K mg base ⟨dkn, tb⟩ 10 "_law_is_twice_right" s__law_is_twice_right P__law_is_twice_right S_twiceR := by
  obtain ⟨f, fd, hm, F, hb⟩ := h
  exact ⟨_, f, fd, hm, F, hb, fn_okD F sc__law_is_twice_right len__law_is_twice_right (fun cdv A outer s H E B hB hr hgd => b__law_is_twice_right G c_carried_script c_carried_water c__law_told_couple cdv A outer s H E B hB hr hgd) m_twiceR⟩
theorem len_law : ∀ cs K', S_law cs K' → cs.length = P_law.length := by (intro cs K' h; repeat (first | (obtain ⟨e, -⟩ := h; subst e; rfl) | obtain ⟨_, h⟩ := h))
theorem j_law {f : Addr} {fd : FuncData} (G : Gs K mg) (c__law_deck : Cal P w K mg base ⟨dkn, tb⟩ 1 "_law_deck" s__law_deck P__law_deck S_deck) (c__law_mapped : Cal P w K mg base ⟨dkn, tb⟩ 4 "_law_mapped" s__law_mapped P__law_mapped S_mapped) (c__law_pick : Cal P w K mg base ⟨dkn, tb⟩ 2 "_law_pick" s__law_pick P__law_pick S_pick) (c__law_script : Cal P w K mg base ⟨dkn, tb⟩ 3 "_law_script" s__law_script P__law_script S_lscript) (c__law_draw : Cal P w K mg base ⟨dkn, tb⟩ 1 "_law_draw" s__law_draw P__law_draw S_draw) (c__law_closing : Cal P w K mg base ⟨dkn, tb⟩ 1 "_law_closing" s__law_closing P__law_closing S_lclosing) (c__law_sides : Cal P w K mg base ⟨dkn, tb⟩ 1 "_law_sides" s__law_sides P__law_sides S_sides) (c__law_lot : Cal P w K mg base ⟨dkn, tb⟩ 3 "_law_lot" s__law_lot P__law_lot S_llot) (c__law_are_deeds_right : Cal P w K mg base ⟨dkn, tb⟩ 10 "_law_are_deeds_right" s__law_are_deeds_right P__law_are_deeds_right S_deedsR) (c__law_is_led_right : Cal P w K mg base ⟨dkn, tb⟩ 10 "_law_is_led_right" s__law_is_led_right P__law_is_led_right S_ledR) (c_carried_water : Cal P w K mg base ⟨dkn, tb⟩ 9 "carried_water" s_carried_water P_carried_water S_carried_water) (c_run : Cal P w K mg base ⟨dkn, tb⟩ 8 "run" s_run P_run S_run) (c_carried_script : Cal P w K mg base ⟨dkn, tb⟩ 9 "carried_script" s_carried_script P_carried_script S_carried_script) (c__law_led : Cal P w K mg base ⟨dkn, tb⟩ 2 "_law_led" s__law_led P__law_led S_led) (c__law_is_twice_right : Cal P w K mg base ⟨dkn, tb⟩ 10 "_law_is_twice_right" s__law_is_twice_right P__law_is_twice_right S_twiceR) (F : FnP K "law" s_law f fd) : FnG P w K mg base 11 f fd P_law (spOf0 K ⟨dkn, tb⟩ S_law) :=
  fn_ok0 F sc_law len_law (fun cdv A outer s H E B hB hda hr hgd => b_law G c__law_deck c__law_mapped c__law_pick c__law_script c__law_draw c__law_closing c__law_sides c__law_lot c__law_are_deeds_right c__law_is_led_right c_carried_water c_run c_carried_script c__law_led c__law_is_twice_right cdv A outer s H E B hB hda rfl hr hgd) m_law
end
end L87
set_option maxHeartbeats 2000000
namespace L87
open PySem PySem.Spec PyProof.Rows L2 DL
section
variable {P : Program} {w : World} {K : PySem.W.Frag} {h : Heap} {mg : Str → Option Value}
theorem gs_ok (X : K.In h) (G : h.Ns mainGlobals mg) (c : He.SaysX fa fn [] tf (exT tps) w h K) : Gs K mg := ⟨He.free_ok X G (c.t.d.fact 65 (f := .free "Exception") rfl),
  He.free_ok X G (c.t.d.fact 66 (f := .free "all") rfl),
  He.free_ok X G (c.t.d.fact 67 (f := .free "bool") rfl),
  He.free_ok X G (c.t.d.fact 68 (f := .free "enumerate") rfl),
  He.free_ok X G (c.t.d.fact 69 (f := .free "int") rfl),
  He.free_ok X G (c.t.d.fact 70 (f := .free "isinstance") rfl),
  He.free_ok X G (c.t.d.fact 71 (f := .free "len") rfl),
  He.free_ok X G (c.t.d.fact 72 (f := .free "list") rfl),
  He.free_ok X G (c.t.d.fact 73 (f := .free "max") rfl),
  He.free_ok X G (c.t.d.fact 74 (f := .free "range") rfl),
  He.free_ok X G (c.t.d.fact 75 (f := .free "repr") rfl),
  He.free_ok X G (c.t.d.fact 76 (f := .free "set") rfl),
  He.free_ok X G (c.t.d.fact 77 (f := .free "sorted") rfl),
  He.free_ok X G (c.t.d.fact 78 (f := .free "str") rfl),
  He.free_ok X G (c.t.d.fact 79 (f := .free "super") rfl),
  He.free_ok X G (c.t.d.fact 80 (f := .free "tuple") rfl),
  He.free_ok X G (c.t.d.fact 81 (f := .free "zip") rfl),
  He.int_ok X G (c.t.d.fact 82 (f := .int "MOST_TERRACES" 10) rfl),
  ⟨_, He.glo_ok X G (c.t.d.fact 83 (f := .glo "WORDS") rfl), fun H => exT_tup c.more 0 (t := tps.getD 0 ("", [])) rfl H⟩⟩
theorem fx_is_integer (X : K.In h) (G : h.Ns mainGlobals mg) (c : He.SaysX fa fn [] tf (exT tps) w h K) : Fx K mg "is_integer" "is_integer" s_is_integer P_is_integer := by
  obtain ⟨fd, F⟩ := c.t.d.def_ 0 (d := d_is_integer) rfl
  exact ⟨_, fd, He.glo_ok X G (c.t.d.fact 0 (f := .glo "is_integer") rfl), F, FunD.bindsN (ps := P_is_integer) F fun _ _ _ _ _ _ us hl => match us, hl with | [_], _ => rfl⟩
theorem fx_is_between (X : K.In h) (G : h.Ns mainGlobals mg) (c : He.SaysX fa fn [] tf (exT tps) w h K) : Fx K mg "is_between" "is_between" s_is_between P_is_between := by
  obtain ⟨fd, F⟩ := c.t.d.def_ 1 (d := d_is_between) rfl
  exact ⟨_, fd, He.glo_ok X G (c.t.d.fact 1 (f := .glo "is_between") rfl), F, FunD.bindsN (ps := P_is_between) F fun _ _ _ _ _ _ us hl => match us, hl with | [_, _, _], _ => rfl⟩
theorem fx_is_pair_of (X : K.In h) (G : h.Ns mainGlobals mg) (c : He.SaysX fa fn [] tf (exT tps) w h K) : Fx K mg "is_pair_of" "is_pair_of" s_is_pair_of P_is_pair_of := by
  obtain ⟨fd, F⟩ := c.t.d.def_ 2 (d := d_is_pair_of) rfl
  exact ⟨_, fd, He.glo_ok X G (c.t.d.fact 2 (f := .glo "is_pair_of") rfl), F, FunD.bindsN (ps := P_is_pair_of) F fun _ _ _ _ _ _ us hl => match us, hl with | [_, _], _ => rfl⟩
theorem fx_is_book_value (X : K.In h) (G : h.Ns mainGlobals mg) (c : He.SaysX fa fn [] tf (exT tps) w h K) : Fx K mg "is_book_value" "is_book_value" s_is_book_value P_is_book_value := by
  obtain ⟨fd, F⟩ := c.t.d.def_ 3 (d := d_is_book_value) rfl
  exact ⟨_, fd, He.glo_ok X G (c.t.d.fact 3 (f := .glo "is_book_value") rfl), F, FunD.bindsN (ps := P_is_book_value) F fun _ _ _ _ _ _ us hl => match us, hl with | [_], _ => rfl⟩
theorem fx_is_hill_value (X : K.In h) (G : h.Ns mainGlobals mg) (c : He.SaysX fa fn [] tf (exT tps) w h K) : Fx K mg "is_hill_value" "is_hill_value" s_is_hill_value P_is_hill_value := by
  obtain ⟨fd, F⟩ := c.t.d.def_ 4 (d := d_is_hill_value) rfl
  exact ⟨_, fd, He.glo_ok X G (c.t.d.fact 4 (f := .glo "is_hill_value") rfl), F, FunD.bindsN (ps := P_is_hill_value) F fun _ _ _ _ _ _ us hl => match us, hl with | [_], _ => rfl⟩
theorem fx_need_hill (X : K.In h) (G : h.Ns mainGlobals mg) (c : He.SaysX fa fn [] tf (exT tps) w h K) : Fx K mg "need_hill" "need_hill" s_need_hill P_need_hill := by
  obtain ⟨fd, F⟩ := c.t.d.def_ 5 (d := d_need_hill) rfl
  exact ⟨_, fd, He.glo_ok X G (c.t.d.fact 5 (f := .glo "need_hill") rfl), F, FunD.bindsN (ps := P_need_hill) F fun _ _ _ _ _ _ us hl => match us, hl with | [_], _ => rfl⟩
theorem fx_lows (X : K.In h) (G : h.Ns mainGlobals mg) (c : He.SaysX fa fn [] tf (exT tps) w h K) : Fx K mg "lows" "lows" s_lows P_lows := by
  obtain ⟨fd, F⟩ := c.t.d.def_ 6 (d := d_lows) rfl
  exact ⟨_, fd, He.glo_ok X G (c.t.d.fact 6 (f := .glo "lows") rfl), F, FunD.bindsN (ps := P_lows) F fun _ _ _ _ _ _ us hl => match us, hl with | [_], _ => rfl⟩
theorem fx_highs (X : K.In h) (G : h.Ns mainGlobals mg) (c : He.SaysX fa fn [] tf (exT tps) w h K) : Fx K mg "highs" "highs" s_highs P_highs := by
  obtain ⟨fd, F⟩ := c.t.d.def_ 7 (d := d_highs) rfl
  exact ⟨_, fd, He.glo_ok X G (c.t.d.fact 7 (f := .glo "highs") rfl), F, FunD.bindsN (ps := P_highs) F fun _ _ _ _ _ _ us hl => match us, hl with | [_], _ => rfl⟩
theorem fx_hill_of_lows (X : K.In h) (G : h.Ns mainGlobals mg) (c : He.SaysX fa fn [] tf (exT tps) w h K) : Fx K mg "hill_of_lows" "hill_of_lows" s_hill_of_lows P_hill_of_lows := by
  obtain ⟨fd, F⟩ := c.t.d.def_ 8 (d := d_hill_of_lows) rfl
  exact ⟨_, fd, He.glo_ok X G (c.t.d.fact 8 (f := .glo "hill_of_lows") rfl), F, FunD.bindsN (ps := P_hill_of_lows) F fun _ _ _ _ _ _ us hl => match us, hl with | [_], _ => rfl⟩
theorem fx_closing_of (X : K.In h) (G : h.Ns mainGlobals mg) (c : He.SaysX fa fn [] tf (exT tps) w h K) : Fx K mg "closing_of" "closing_of" s_closing_of P_closing_of := by
  obtain ⟨fd, F⟩ := c.t.d.def_ 9 (d := d_closing_of) rfl
  exact ⟨_, fd, He.glo_ok X G (c.t.d.fact 9 (f := .glo "closing_of") rfl), F, FunD.bindsN (ps := P_closing_of) F fun _ _ _ _ _ _ us hl => match us, hl with | [_], _ => rfl⟩
theorem fx_mask_of (X : K.In h) (G : h.Ns mainGlobals mg) (c : He.SaysX fa fn [] tf (exT tps) w h K) : Fx K mg "mask_of" "mask_of" s_mask_of P_mask_of := by
  obtain ⟨fd, F⟩ := c.t.d.def_ 10 (d := d_mask_of) rfl
  exact ⟨_, fd, He.glo_ok X G (c.t.d.fact 10 (f := .glo "mask_of") rfl), F, FunD.bindsN (ps := P_mask_of) F fun _ _ _ _ _ _ us hl => match us, hl with | [_], _ => rfl⟩
theorem fx_lot_of (X : K.In h) (G : h.Ns mainGlobals mg) (c : He.SaysX fa fn [] tf (exT tps) w h K) : Fx K mg "lot_of" "lot_of" s_lot_of P_lot_of := by
  obtain ⟨fd, F⟩ := c.t.d.def_ 11 (d := d_lot_of) rfl
  exact ⟨_, fd, He.glo_ok X G (c.t.d.fact 11 (f := .glo "lot_of") rfl), F, FunD.bindsN (ps := P_lot_of) F fun _ _ _ _ _ _ us hl => match us, hl with | [_], _ => rfl⟩
theorem fx_is_lot_value (X : K.In h) (G : h.Ns mainGlobals mg) (c : He.SaysX fa fn [] tf (exT tps) w h K) : Fx K mg "is_lot_value" "is_lot_value" s_is_lot_value P_is_lot_value := by
  obtain ⟨fd, F⟩ := c.t.d.def_ 12 (d := d_is_lot_value) rfl
  exact ⟨_, fd, He.glo_ok X G (c.t.d.fact 12 (f := .glo "is_lot_value") rfl), F, FunD.bindsN (ps := P_is_lot_value) F fun _ _ _ _ _ _ us hl => match us, hl with | [_, _], _ => rfl⟩
theorem fx_closed_mask (X : K.In h) (G : h.Ns mainGlobals mg) (c : He.SaysX fa fn [] tf (exT tps) w h K) : Fx K mg "closed_mask" "closed_mask" s_closed_mask P_closed_mask := by
  obtain ⟨fd, F⟩ := c.t.d.def_ 13 (d := d_closed_mask) rfl
  exact ⟨_, fd, He.glo_ok X G (c.t.d.fact 13 (f := .glo "closed_mask") rfl), F, FunD.bindsN (ps := P_closed_mask) F fun _ _ _ _ _ _ us hl => match us, hl with | [_, _], _ => rfl⟩
theorem fx_lower_mask (X : K.In h) (G : h.Ns mainGlobals mg) (c : He.SaysX fa fn [] tf (exT tps) w h K) : Fx K mg "lower_mask" "lower_mask" s_lower_mask P_lower_mask := by
  obtain ⟨fd, F⟩ := c.t.d.def_ 14 (d := d_lower_mask) rfl
  exact ⟨_, fd, He.glo_ok X G (c.t.d.fact 14 (f := .glo "lower_mask") rfl), F, FunD.bindsN (ps := P_lower_mask) F fun _ _ _ _ _ _ us hl => match us, hl with | [_, _], _ => rfl⟩
theorem fx_is_lower_value (X : K.In h) (G : h.Ns mainGlobals mg) (c : He.SaysX fa fn [] tf (exT tps) w h K) : Fx K mg "is_lower_value" "is_lower_value" s_is_lower_value P_is_lower_value := by
  obtain ⟨fd, F⟩ := c.t.d.def_ 15 (d := d_is_lower_value) rfl
  exact ⟨_, fd, He.glo_ok X G (c.t.d.fact 15 (f := .glo "is_lower_value") rfl), F, FunD.bindsN (ps := P_is_lower_value) F fun _ _ _ _ _ _ us hl => match us, hl with | [_, _], _ => rfl⟩
theorem fx_ends_of (X : K.In h) (G : h.Ns mainGlobals mg) (c : He.SaysX fa fn [] tf (exT tps) w h K) : Fx K mg "ends_of" "ends_of" s_ends_of P_ends_of := by
  obtain ⟨fd, F⟩ := c.t.d.def_ 16 (d := d_ends_of) rfl
  exact ⟨_, fd, He.glo_ok X G (c.t.d.fact 16 (f := .glo "ends_of") rfl), F, FunD.bindsN (ps := P_ends_of) F fun _ _ _ _ _ _ us hl => match us, hl with | [_, _, _], _ => rfl⟩
theorem fx_highest_of (X : K.In h) (G : h.Ns mainGlobals mg) (c : He.SaysX fa fn [] tf (exT tps) w h K) : Fx K mg "highest_of" "highest_of" s_highest_of P_highest_of := by
  obtain ⟨fd, F⟩ := c.t.d.def_ 17 (d := d_highest_of) rfl
  exact ⟨_, fd, He.glo_ok X G (c.t.d.fact 17 (f := .glo "highest_of") rfl), F, FunD.bindsN (ps := P_highest_of) F fun _ _ _ _ _ _ us hl => match us, hl with | [_, _], _ => rfl⟩
theorem fx_lowest_of (X : K.In h) (G : h.Ns mainGlobals mg) (c : He.SaysX fa fn [] tf (exT tps) w h K) : Fx K mg "lowest_of" "lowest_of" s_lowest_of P_lowest_of := by
  obtain ⟨fd, F⟩ := c.t.d.def_ 18 (d := d_lowest_of) rfl
  exact ⟨_, fd, He.glo_ok X G (c.t.d.fact 18 (f := .glo "lowest_of") rfl), F, FunD.bindsN (ps := P_lowest_of) F fun _ _ _ _ _ _ us hl => match us, hl with | [_, _], _ => rfl⟩
theorem fx_is_deed_value (X : K.In h) (G : h.Ns mainGlobals mg) (c : He.SaysX fa fn [] tf (exT tps) w h K) : Fx K mg "is_deed_value" "is_deed_value" s_is_deed_value P_is_deed_value := by
  obtain ⟨fd, F⟩ := c.t.d.def_ 19 (d := d_is_deed_value) rfl
  exact ⟨_, fd, He.glo_ok X G (c.t.d.fact 19 (f := .glo "is_deed_value") rfl), F, FunD.bindsN (ps := P_is_deed_value) F fun _ _ _ _ _ _ us hl => match us, hl with | [_, _], _ => rfl⟩
theorem fx_is_script_value (X : K.In h) (G : h.Ns mainGlobals mg) (c : He.SaysX fa fn [] tf (exT tps) w h K) : Fx K mg "is_script_value" "is_script_value" s_is_script_value P_is_script_value := by
  obtain ⟨fd, F⟩ := c.t.d.def_ 20 (d := d_is_script_value) rfl
  exact ⟨_, fd, He.glo_ok X G (c.t.d.fact 20 (f := .glo "is_script_value") rfl), F, FunD.bindsN (ps := P_is_script_value) F fun _ _ _ _ _ _ us hl => match us, hl with | [_, _], _ => rfl⟩
theorem fx_need_script (X : K.In h) (G : h.Ns mainGlobals mg) (c : He.SaysX fa fn [] tf (exT tps) w h K) : Fx K mg "need_script" "need_script" s_need_script P_need_script := by
  obtain ⟨fd, F⟩ := c.t.d.def_ 21 (d := d_need_script) rfl
  exact ⟨_, fd, He.glo_ok X G (c.t.d.fact 21 (f := .glo "need_script") rfl), F, FunD.bindsN (ps := P_need_script) F fun _ _ _ _ _ _ us hl => match us, hl with | [_, _], _ => rfl⟩
theorem fx_reaches (X : K.In h) (G : h.Ns mainGlobals mg) (c : He.SaysX fa fn [] tf (exT tps) w h K) : Fx K mg "reaches" "reaches" s_reaches P_reaches := by
  obtain ⟨fd, F⟩ := c.t.d.def_ 22 (d := d_reaches) rfl
  exact ⟨_, fd, He.glo_ok X G (c.t.d.fact 22 (f := .glo "reaches") rfl), F, FunD.bindsN (ps := P_reaches) F fun _ _ _ _ _ _ us hl => match us, hl with | [_, _], _ => rfl⟩
theorem fx_reach_mask (X : K.In h) (G : h.Ns mainGlobals mg) (c : He.SaysX fa fn [] tf (exT tps) w h K) : Fx K mg "reach_mask" "reach_mask" s_reach_mask P_reach_mask := by
  obtain ⟨fd, F⟩ := c.t.d.def_ 23 (d := d_reach_mask) rfl
  exact ⟨_, fd, He.glo_ok X G (c.t.d.fact 23 (f := .glo "reach_mask") rfl), F, FunD.bindsN (ps := P_reach_mask) F fun _ _ _ _ _ _ us hl => match us, hl with | [_, _], _ => rfl⟩
theorem fx_done (X : K.In h) (G : h.Ns mainGlobals mg) (c : He.SaysX fa fn [] tf (exT tps) w h K) : Fx K mg "done" "done" s_done P_done := by
  obtain ⟨fd, F⟩ := c.t.d.def_ 24 (d := d_done) rfl
  exact ⟨_, fd, He.glo_ok X G (c.t.d.fact 24 (f := .glo "done") rfl), F, FunD.bindsN (ps := P_done) F fun _ _ _ _ _ _ us hl => match us, hl with | [_, _, _], _ => rfl⟩
theorem fx_couple_masks (X : K.In h) (G : h.Ns mainGlobals mg) (c : He.SaysX fa fn [] tf (exT tps) w h K) : Fx K mg "couple_masks" "couple_masks" s_couple_masks P_couple_masks := by
  obtain ⟨fd, F⟩ := c.t.d.def_ 25 (d := d_couple_masks) rfl
  exact ⟨_, fd, He.glo_ok X G (c.t.d.fact 25 (f := .glo "couple_masks") rfl), F, FunD.bindsN (ps := P_couple_masks) F fun _ _ _ _ _ _ us hl => match us, hl with | [_, _], _ => rfl⟩
theorem fx_need_hills (X : K.In h) (G : h.Ns mainGlobals mg) (c : He.SaysX fa fn [] tf (exT tps) w h K) : Fx K mg "need_hills" "need_hills" s_need_hills P_need_hills := by
  obtain ⟨fd, F⟩ := c.t.d.def_ 26 (d := d_need_hills) rfl
  exact ⟨_, fd, He.glo_ok X G (c.t.d.fact 26 (f := .glo "need_hills") rfl), F, FunD.bindsN (ps := P_need_hills) F fun _ _ _ _ _ _ us hl => match us, hl with | [_, _], _ => rfl⟩
theorem fx_is_map_value (X : K.In h) (G : h.Ns mainGlobals mg) (c : He.SaysX fa fn [] tf (exT tps) w h K) : Fx K mg "is_map_value" "is_map_value" s_is_map_value P_is_map_value := by
  obtain ⟨fd, F⟩ := c.t.d.def_ 27 (d := d_is_map_value) rfl
  exact ⟨_, fd, He.glo_ok X G (c.t.d.fact 27 (f := .glo "is_map_value") rfl), F, FunD.bindsN (ps := P_is_map_value) F fun _ _ _ _ _ _ us hl => match us, hl with | [_, _, _], _ => rfl⟩
theorem fx_need_map (X : K.In h) (G : h.Ns mainGlobals mg) (c : He.SaysX fa fn [] tf (exT tps) w h K) : Fx K mg "need_map" "need_map" s_need_map P_need_map := by
  obtain ⟨fd, F⟩ := c.t.d.def_ 28 (d := d_need_map) rfl
  exact ⟨_, fd, He.glo_ok X G (c.t.d.fact 28 (f := .glo "need_map") rfl), F, FunD.bindsN (ps := P_need_map) F fun _ _ _ _ _ _ us hl => match us, hl with | [_, _, _], _ => rfl⟩
theorem fx_need_water_maps (X : K.In h) (G : h.Ns mainGlobals mg) (c : He.SaysX fa fn [] tf (exT tps) w h K) : Fx K mg "need_water_maps" "need_water" s_need_water_maps P_need_water_maps := by
  obtain ⟨fd, F⟩ := c.t.d.def_ 29 (d := d_need_water_maps) rfl
  exact ⟨_, fd, He.glo_ok X G (c.t.d.fact 29 (f := .glo "need_water_maps") rfl), F, FunD.bindsN (ps := P_need_water_maps) F fun _ _ _ _ _ _ us hl => match us, hl with | [_, _], _ => rfl⟩
theorem fx_carried_mask (X : K.In h) (G : h.Ns mainGlobals mg) (c : He.SaysX fa fn [] tf (exT tps) w h K) : Fx K mg "carried_mask" "carried_mask" s_carried_mask P_carried_mask := by
  obtain ⟨fd, F⟩ := c.t.d.def_ 30 (d := d_carried_mask) rfl
  exact ⟨_, fd, He.glo_ok X G (c.t.d.fact 30 (f := .glo "carried_mask") rfl), F, FunD.bindsN (ps := P_carried_mask) F fun _ _ _ _ _ _ us hl => match us, hl with | [_, _], _ => rfl⟩
theorem fx_carried_water (X : K.In h) (G : h.Ns mainGlobals mg) (c : He.SaysX fa fn [] tf (exT tps) w h K) : Fx K mg "carried_water" "carried_water" s_carried_water P_carried_water := by
  obtain ⟨fd, F⟩ := c.t.d.def_ 31 (d := d_carried_water) rfl
  exact ⟨_, fd, He.glo_ok X G (c.t.d.fact 31 (f := .glo "carried_water") rfl), F, FunD.bindsN (ps := P_carried_water) F fun _ _ _ _ _ _ us hl => match us, hl with | [_, _, _, _], _ => rfl⟩
theorem fx_carried_terraces (X : K.In h) (G : h.Ns mainGlobals mg) (c : He.SaysX fa fn [] tf (exT tps) w h K) : Fx K mg "carried_terraces" "carried_terraces" s_carried_terraces P_carried_terraces := by
  obtain ⟨fd, F⟩ := c.t.d.def_ 32 (d := d_carried_terraces) rfl
  exact ⟨_, fd, He.glo_ok X G (c.t.d.fact 32 (f := .glo "carried_terraces") rfl), F, FunD.bindsN (ps := P_carried_terraces) F fun _ _ _ _ _ _ us hl => match us, hl with | [_, _, _, _], _ => rfl⟩
theorem fx_deeds_carried (X : K.In h) (G : h.Ns mainGlobals mg) (c : He.SaysX fa fn [] tf (exT tps) w h K) : Fx K mg "deeds_carried" "deeds_carried" s_deeds_carried P_deeds_carried := by
  obtain ⟨fd, F⟩ := c.t.d.def_ 33 (d := d_deeds_carried) rfl
  exact ⟨_, fd, He.glo_ok X G (c.t.d.fact 33 (f := .glo "deeds_carried") rfl), F, FunD.bindsN (ps := P_deeds_carried) F fun _ _ _ _ _ _ us hl => match us, hl with | [_, _, _, _], _ => rfl⟩
theorem fx_carried_deed (X : K.In h) (G : h.Ns mainGlobals mg) (c : He.SaysX fa fn [] tf (exT tps) w h K) : Fx K mg "carried_deed" "carried_deed" s_carried_deed P_carried_deed := by
  obtain ⟨fd, F⟩ := c.t.d.def_ 34 (d := d_carried_deed) rfl
  exact ⟨_, fd, He.glo_ok X G (c.t.d.fact 34 (f := .glo "carried_deed") rfl), F, FunD.bindsN (ps := P_carried_deed) F fun _ _ _ _ _ _ us hl => match us, hl with | [_, _, _, _], _ => rfl⟩
theorem fx_carried_script (X : K.In h) (G : h.Ns mainGlobals mg) (c : He.SaysX fa fn [] tf (exT tps) w h K) : Fx K mg "carried_script" "carried_script" s_carried_script P_carried_script := by
  obtain ⟨fd, F⟩ := c.t.d.def_ 35 (d := d_carried_script) rfl
  exact ⟨_, fd, He.glo_ok X G (c.t.d.fact 35 (f := .glo "carried_script") rfl), F, FunD.bindsN (ps := P_carried_script) F fun _ _ _ _ _ _ us hl => match us, hl with | [_, _, _, _], _ => rfl⟩
theorem fx_is_water (X : K.In h) (G : h.Ns mainGlobals mg) (c : He.SaysX fa fn [] tf (exT tps) w h K) : Fx K mg "is_water" "is_water" s_is_water P_is_water := by
  obtain ⟨fd, F⟩ := c.t.d.def_ 36 (d := d_is_water) rfl
  exact ⟨_, fd, He.glo_ok X G (c.t.d.fact 36 (f := .glo "is_water") rfl), F, FunD.bindsN (ps := P_is_water) F fun _ _ _ _ _ _ us hl => match us, hl with | [_, _], _ => rfl⟩
theorem fx_need_water_scripts (X : K.In h) (G : h.Ns mainGlobals mg) (c : He.SaysX fa fn [] tf (exT tps) w h K) : Fx K mg "need_water_scripts" "need_water" s_need_water_scripts P_need_water_scripts := by
  obtain ⟨fd, F⟩ := c.t.d.def_ 37 (d := d_need_water_scripts) rfl
  exact ⟨_, fd, He.glo_ok X G (c.t.d.fact 37 (f := .glo "need_water_scripts") rfl), F, FunD.bindsN (ps := P_need_water_scripts) F fun _ _ _ _ _ _ us hl => match us, hl with | [_, _], _ => rfl⟩
theorem fx_reach (X : K.In h) (G : h.Ns mainGlobals mg) (c : He.SaysX fa fn [] tf (exT tps) w h K) : Fx K mg "reach" "reach" s_reach P_reach := by
  obtain ⟨fd, F⟩ := c.t.d.def_ 38 (d := d_reach) rfl
  exact ⟨_, fd, He.glo_ok X G (c.t.d.fact 38 (f := .glo "reach") rfl), F, FunD.bindsN (ps := P_reach) F fun _ _ _ _ _ _ us hl => match us, hl with | [_, _], _ => rfl⟩
theorem fx_run (X : K.In h) (G : h.Ns mainGlobals mg) (c : He.SaysX fa fn [] tf (exT tps) w h K) : Fx K mg "run" "run" s_run P_run := by
  obtain ⟨fd, F⟩ := c.t.d.def_ 39 (d := d_run) rfl
  exact ⟨_, fd, He.glo_ok X G (c.t.d.fact 39 (f := .glo "run") rfl), F, FunD.bindsN (ps := P_run) F fun _ _ _ _ _ _ us hl => match us, hl with | [_, _, _], _ => rfl⟩
theorem fx_raw_couple (X : K.In h) (G : h.Ns mainGlobals mg) (c : He.SaysX fa fn [] tf (exT tps) w h K) : Fx K mg "raw_couple" "raw_couple" s_raw_couple P_raw_couple := by
  obtain ⟨fd, F⟩ := c.t.d.def_ 40 (d := d_raw_couple) rfl
  exact ⟨_, fd, He.glo_ok X G (c.t.d.fact 40 (f := .glo "raw_couple") rfl), F, FunD.bindsN (ps := P_raw_couple) F fun _ _ _ _ _ _ us hl => match us, hl with | [_, _], _ => rfl⟩
theorem fx_couple_of (X : K.In h) (G : h.Ns mainGlobals mg) (c : He.SaysX fa fn [] tf (exT tps) w h K) : Fx K mg "couple_of" "couple_of" s_couple_of P_couple_of := by
  obtain ⟨fd, F⟩ := c.t.d.def_ 41 (d := d_couple_of) rfl
  exact ⟨_, fd, He.glo_ok X G (c.t.d.fact 41 (f := .glo "couple_of") rfl), F, FunD.bindsN (ps := P_couple_of) F fun _ _ _ _ _ _ us hl => match us, hl with | [_, _], _ => rfl⟩
theorem fx__law_deck (X : K.In h) (G : h.Ns mainGlobals mg) (c : He.SaysX fa fn [] tf (exT tps) w h K) : Fx K mg "_law_deck" "_law_deck" s__law_deck P__law_deck := by
  obtain ⟨fd, F⟩ := c.t.d.def_ 42 (d := d__law_deck) rfl
  exact ⟨_, fd, He.glo_ok X G (c.t.d.fact 42 (f := .glo "_law_deck") rfl), F, FunD.bindsN (ps := P__law_deck) F fun _ _ _ _ _ _ us hl => match us, hl with | [_], _ => rfl⟩
theorem fx__law_draw (X : K.In h) (G : h.Ns mainGlobals mg) (c : He.SaysX fa fn [] tf (exT tps) w h K) : Fx K mg "_law_draw" "_law_draw" s__law_draw P__law_draw := by
  obtain ⟨fd, F⟩ := c.t.d.def_ 43 (d := d__law_draw) rfl
  exact ⟨_, fd, He.glo_ok X G (c.t.d.fact 43 (f := .glo "_law_draw") rfl), F, FunD.bindsN (ps := P__law_draw) F fun _ _ _ _ _ _ us hl => match us, hl with | [_, _], _ => rfl⟩
theorem fx__law_pick (X : K.In h) (G : h.Ns mainGlobals mg) (c : He.SaysX fa fn [] tf (exT tps) w h K) : Fx K mg "_law_pick" "_law_pick" s__law_pick P__law_pick := by
  obtain ⟨fd, F⟩ := c.t.d.def_ 44 (d := d__law_pick) rfl
  exact ⟨_, fd, He.glo_ok X G (c.t.d.fact 44 (f := .glo "_law_pick") rfl), F, FunD.bindsN (ps := P__law_pick) F fun _ _ _ _ _ _ us hl => match us, hl with | [_, _], _ => rfl⟩
theorem fx__law_shuffled (X : K.In h) (G : h.Ns mainGlobals mg) (c : He.SaysX fa fn [] tf (exT tps) w h K) : Fx K mg "_law_shuffled" "_law_shuffled" s__law_shuffled P__law_shuffled := by
  obtain ⟨fd, F⟩ := c.t.d.def_ 45 (d := d__law_shuffled) rfl
  exact ⟨_, fd, He.glo_ok X G (c.t.d.fact 45 (f := .glo "_law_shuffled") rfl), F, FunD.bindsN (ps := P__law_shuffled) F fun _ _ _ _ _ _ us hl => match us, hl with | [_, _], _ => rfl⟩
theorem fx__law_closed (X : K.In h) (G : h.Ns mainGlobals mg) (c : He.SaysX fa fn [] tf (exT tps) w h K) : Fx K mg "_law_closed" "_law_closed" s__law_closed P__law_closed := by
  obtain ⟨fd, F⟩ := c.t.d.def_ 46 (d := d__law_closed) rfl
  exact ⟨_, fd, He.glo_ok X G (c.t.d.fact 46 (f := .glo "_law_closed") rfl), F, FunD.bindsN (ps := P__law_closed) F fun _ _ _ _ _ _ us hl => match us, hl with | [_, _], _ => rfl⟩
theorem fx__law_hill (X : K.In h) (G : h.Ns mainGlobals mg) (c : He.SaysX fa fn [] tf (exT tps) w h K) : Fx K mg "_law_hill" "_law_hill" s__law_hill P__law_hill := by
  obtain ⟨fd, F⟩ := c.t.d.def_ 47 (d := d__law_hill) rfl
  exact ⟨_, fd, He.glo_ok X G (c.t.d.fact 47 (f := .glo "_law_hill") rfl), F, FunD.bindsN (ps := P__law_hill) F fun _ _ _ _ _ _ us hl => match us, hl with | [_, _], _ => rfl⟩
theorem fx__law_sides (X : K.In h) (G : h.Ns mainGlobals mg) (c : He.SaysX fa fn [] tf (exT tps) w h K) : Fx K mg "_law_sides" "_law_sides" s__law_sides P__law_sides := by
  obtain ⟨fd, F⟩ := c.t.d.def_ 48 (d := d__law_sides) rfl
  exact ⟨_, fd, He.glo_ok X G (c.t.d.fact 48 (f := .glo "_law_sides") rfl), F, FunD.bindsN (ps := P__law_sides) F fun _ _ _ _ _ _ us hl => match us, hl with | [_], _ => rfl⟩
theorem fx__law_closing (X : K.In h) (G : h.Ns mainGlobals mg) (c : He.SaysX fa fn [] tf (exT tps) w h K) : Fx K mg "_law_closing" "_law_closing" s__law_closing P__law_closing := by
  obtain ⟨fd, F⟩ := c.t.d.def_ 49 (d := d__law_closing) rfl
  exact ⟨_, fd, He.glo_ok X G (c.t.d.fact 49 (f := .glo "_law_closing") rfl), F, FunD.bindsN (ps := P__law_closing) F fun _ _ _ _ _ _ us hl => match us, hl with | [_, _], _ => rfl⟩
theorem fx__law_outer (X : K.In h) (G : h.Ns mainGlobals mg) (c : He.SaysX fa fn [] tf (exT tps) w h K) : Fx K mg "_law_outer" "_law_outer" s__law_outer P__law_outer := by
  obtain ⟨fd, F⟩ := c.t.d.def_ 50 (d := d__law_outer) rfl
  exact ⟨_, fd, He.glo_ok X G (c.t.d.fact 50 (f := .glo "_law_outer") rfl), F, FunD.bindsN (ps := P__law_outer) F fun _ _ _ _ _ _ us hl => match us, hl with | [_, _], _ => rfl⟩
theorem fx__law_lasts (X : K.In h) (G : h.Ns mainGlobals mg) (c : He.SaysX fa fn [] tf (exT tps) w h K) : Fx K mg "_law_lasts" "_law_lasts" s__law_lasts P__law_lasts := by
  obtain ⟨fd, F⟩ := c.t.d.def_ 51 (d := d__law_lasts) rfl
  exact ⟨_, fd, He.glo_ok X G (c.t.d.fact 51 (f := .glo "_law_lasts") rfl), F, FunD.bindsN (ps := P__law_lasts) F fun _ _ _ _ _ _ us hl => match us, hl with | [_, _], _ => rfl⟩
theorem fx__law_couple (X : K.In h) (G : h.Ns mainGlobals mg) (c : He.SaysX fa fn [] tf (exT tps) w h K) : Fx K mg "_law_couple" "_law_couple" s__law_couple P__law_couple := by
  obtain ⟨fd, F⟩ := c.t.d.def_ 52 (d := d__law_couple) rfl
  exact ⟨_, fd, He.glo_ok X G (c.t.d.fact 52 (f := .glo "_law_couple") rfl), F, FunD.bindsN (ps := P__law_couple) F fun _ _ _ _ _ _ us hl => match us, hl with | [_, _], _ => rfl⟩
theorem fx__law_script (X : K.In h) (G : h.Ns mainGlobals mg) (c : He.SaysX fa fn [] tf (exT tps) w h K) : Fx K mg "_law_script" "_law_script" s__law_script P__law_script := by
  obtain ⟨fd, F⟩ := c.t.d.def_ 53 (d := d__law_script) rfl
  exact ⟨_, fd, He.glo_ok X G (c.t.d.fact 53 (f := .glo "_law_script") rfl), F, FunD.bindsN (ps := P__law_script) F fun _ _ _ _ _ _ us hl => match us, hl with | [_, _, _], _ => rfl⟩
theorem fx__law_lot (X : K.In h) (G : h.Ns mainGlobals mg) (c : He.SaysX fa fn [] tf (exT tps) w h K) : Fx K mg "_law_lot" "_law_lot" s__law_lot P__law_lot := by
  obtain ⟨fd, F⟩ := c.t.d.def_ 54 (d := d__law_lot) rfl
  exact ⟨_, fd, He.glo_ok X G (c.t.d.fact 54 (f := .glo "_law_lot") rfl), F, FunD.bindsN (ps := P__law_lot) F fun _ _ _ _ _ _ us hl => match us, hl with | [_, _], _ => rfl⟩
theorem fx__law_led (X : K.In h) (G : h.Ns mainGlobals mg) (c : He.SaysX fa fn [] tf (exT tps) w h K) : Fx K mg "_law_led" "_law_led" s__law_led P__law_led := by
  obtain ⟨fd, F⟩ := c.t.d.def_ 55 (d := d__law_led) rfl
  exact ⟨_, fd, He.glo_ok X G (c.t.d.fact 55 (f := .glo "_law_led") rfl), F, FunD.bindsN (ps := P__law_led) F fun _ _ _ _ _ _ us hl => match us, hl with | [_, _, _], _ => rfl⟩
theorem fx__law_leading (X : K.In h) (G : h.Ns mainGlobals mg) (c : He.SaysX fa fn [] tf (exT tps) w h K) : Fx K mg "_law_leading" "_law_leading" s__law_leading P__law_leading := by
  obtain ⟨fd, F⟩ := c.t.d.def_ 56 (d := d__law_leading) rfl
  exact ⟨_, fd, He.glo_ok X G (c.t.d.fact 56 (f := .glo "_law_leading") rfl), F, FunD.bindsN (ps := P__law_leading) F fun _ _ _ _ _ _ us hl => match us, hl with | [_, _, _], _ => rfl⟩
theorem fx__law_mapped (X : K.In h) (G : h.Ns mainGlobals mg) (c : He.SaysX fa fn [] tf (exT tps) w h K) : Fx K mg "_law_mapped" "_law_mapped" s__law_mapped P__law_mapped := by
  obtain ⟨fd, F⟩ := c.t.d.def_ 57 (d := d__law_mapped) rfl
  exact ⟨_, fd, He.glo_ok X G (c.t.d.fact 57 (f := .glo "_law_mapped") rfl), F, FunD.bindsN (ps := P__law_mapped) F fun _ _ _ _ _ _ us hl => match us, hl with | [_, _], _ => rfl⟩
theorem fx__law_carried (X : K.In h) (G : h.Ns mainGlobals mg) (c : He.SaysX fa fn [] tf (exT tps) w h K) : Fx K mg "_law_carried" "_law_carried" s__law_carried P__law_carried := by
  obtain ⟨fd, F⟩ := c.t.d.def_ 58 (d := d__law_carried) rfl
  exact ⟨_, fd, He.glo_ok X G (c.t.d.fact 58 (f := .glo "_law_carried") rfl), F, FunD.bindsN (ps := P__law_carried) F fun _ _ _ _ _ _ us hl => match us, hl with | [_, _], _ => rfl⟩
theorem fx__law_due (X : K.In h) (G : h.Ns mainGlobals mg) (c : He.SaysX fa fn [] tf (exT tps) w h K) : Fx K mg "_law_due" "_law_due" s__law_due P__law_due := by
  obtain ⟨fd, F⟩ := c.t.d.def_ 59 (d := d__law_due) rfl
  exact ⟨_, fd, He.glo_ok X G (c.t.d.fact 59 (f := .glo "_law_due") rfl), F, FunD.bindsN (ps := P__law_due) F fun _ _ _ _ _ _ us hl => match us, hl with | [_, _, _, _], _ => rfl⟩
theorem fx__law_are_deeds_right (X : K.In h) (G : h.Ns mainGlobals mg) (c : He.SaysX fa fn [] tf (exT tps) w h K) : Fx K mg "_law_are_deeds_right" "_law_are_deeds_right" s__law_are_deeds_right P__law_are_deeds_right := by
  obtain ⟨fd, F⟩ := c.t.d.def_ 60 (d := d__law_are_deeds_right) rfl
  exact ⟨_, fd, He.glo_ok X G (c.t.d.fact 60 (f := .glo "_law_are_deeds_right") rfl), F, FunD.bindsN (ps := P__law_are_deeds_right) F fun _ _ _ _ _ _ us hl => match us, hl with | [_, _, _, _], _ => rfl⟩
theorem fx__law_told_couple (X : K.In h) (G : h.Ns mainGlobals mg) (c : He.SaysX fa fn [] tf (exT tps) w h K) : Fx K mg "_law_told_couple" "_law_told_couple" s__law_told_couple P__law_told_couple := by
  obtain ⟨fd, F⟩ := c.t.d.def_ 61 (d := d__law_told_couple) rfl
  exact ⟨_, fd, He.glo_ok X G (c.t.d.fact 61 (f := .glo "_law_told_couple") rfl), F, FunD.bindsN (ps := P__law_told_couple) F fun _ _ _ _ _ _ us hl => match us, hl with | [_, _], _ => rfl⟩
theorem fx__law_is_led_right (X : K.In h) (G : h.Ns mainGlobals mg) (c : He.SaysX fa fn [] tf (exT tps) w h K) : Fx K mg "_law_is_led_right" "_law_is_led_right" s__law_is_led_right P__law_is_led_right := by
  obtain ⟨fd, F⟩ := c.t.d.def_ 62 (d := d__law_is_led_right) rfl
  exact ⟨_, fd, He.glo_ok X G (c.t.d.fact 62 (f := .glo "_law_is_led_right") rfl), F, FunD.bindsN (ps := P__law_is_led_right) F fun _ _ _ _ _ _ us hl => match us, hl with | [_, _, _, _, _], _ => rfl⟩
theorem fx__law_is_twice_right (X : K.In h) (G : h.Ns mainGlobals mg) (c : He.SaysX fa fn [] tf (exT tps) w h K) : Fx K mg "_law_is_twice_right" "_law_is_twice_right" s__law_is_twice_right P__law_is_twice_right := by
  obtain ⟨fd, F⟩ := c.t.d.def_ 63 (d := d__law_is_twice_right) rfl
  exact ⟨_, fd, He.glo_ok X G (c.t.d.fact 63 (f := .glo "_law_is_twice_right") rfl), F, FunD.bindsN (ps := P__law_is_twice_right) F fun _ _ _ _ _ _ us hl => match us, hl with | [_, _, _, _], _ => rfl⟩
theorem facts {f : Addr} (X : K.In h) (G : h.Ns mainGlobals mg) (hfa : mg ("law" : Str) = some (.ref f)) (c : He.SaysX fa fn [] tf (exT tps) w h K) : LawAtG PySem.Challenge.rw_pourasked_k87_whole_carried_back w K 11 63 "script" mg f h := by
  obtain ⟨fd, F⟩ := c.t.d.def_ 64 (d := d_law) rfl
  have e := hfa.symm.trans (He.glo_ok X G (c.t.d.fact 64 (f := .glo "law") rfl))
  cases e
  have b := FunD.bindsA (ps := ["script"]) F fun _ _ _ _ _ _ us hl => match us, hl with | [_], _ => rfl
  have gs := gs_ok X G c
  have hm : ∀ p ∈ tf.map (He.cT K), ∃ q ∈ tf, p = He.cT K q := fun p hp => by
    obtain ⟨q, hq, e⟩ := List.mem_map.mp hp
    exact ⟨q, hq, e.symm⟩
  refine ⟨fd, tf.map (He.cT K), spOf0 K ⟨dkn, []⟩ S_law, fun p hp => ?_, fun p hp => ?_, fun p hp => ?_, fun s v => b s [v] rfl, fun H a ns hl _ hT hS => ?_, fun base hB hN TB => ?_⟩
  · obtain ⟨q, hq, rfl⟩ := hm p hp; exact c.empty q hq
  · obtain ⟨q, hq, rfl⟩ := hm p hp; exact c.out q hq
  · obtain ⟨q, hq, rfl⟩ := hm p hp; exact PySem.W.codeHd_of_K X (c.hd q hq)
  · refine law_sp (fun p hp => ?_) hS ⟨ns, rfl, hl, rfl⟩ fun _ => rfl
    exact absurd hp (by simp)
  · have c_is_integer : Cal (PySem.Challenge.rw_pourasked_k87_whole_carried_back).prog w K mg base ⟨dkn, []⟩ 1 "is_integer" s_is_integer P_is_integer S_is_integer := j_is_integer gs (fx_is_integer X G c)
    have c_is_between : Cal (PySem.Challenge.rw_pourasked_k87_whole_carried_back).prog w K mg base ⟨dkn, []⟩ 2 "is_between" s_is_between P_is_between S_is_between := j_is_between gs (fx_is_between X G c) c_is_integer
    have c_is_pair_of : Cal (PySem.Challenge.rw_pourasked_k87_whole_carried_back).prog w K mg base ⟨dkn, []⟩ 3 "is_pair_of" s_is_pair_of P_is_pair_of S_is_pair_of := j_is_pair_of gs (fx_is_pair_of X G c) c_is_between
    have c_is_book_value : Cal (PySem.Challenge.rw_pourasked_k87_whole_carried_back).prog w K mg base ⟨dkn, []⟩ 4 "is_book_value" s_is_book_value P_is_book_value S_is_book_value := j_is_book_value gs (fx_is_book_value X G c) c_is_between c_is_pair_of
    have c_lows : Cal (PySem.Challenge.rw_pourasked_k87_whole_carried_back).prog w K mg base ⟨dkn, []⟩ 1 "lows" s_lows P_lows S_lows := j_lows gs (fx_lows X G c)
    have c_highs : Cal (PySem.Challenge.rw_pourasked_k87_whole_carried_back).prog w K mg base ⟨dkn, []⟩ 1 "highs" s_highs P_highs S_highs := j_highs gs (fx_highs X G c)
    have c_hill_of_lows : Cal (PySem.Challenge.rw_pourasked_k87_whole_carried_back).prog w K mg base ⟨dkn, []⟩ 1 "hill_of_lows" s_hill_of_lows P_hill_of_lows S_hill_of_lows := j_hill_of_lows gs (fx_hill_of_lows X G c)
    have c_closing_of : Cal (PySem.Challenge.rw_pourasked_k87_whole_carried_back).prog w K mg base ⟨dkn, []⟩ 2 "closing_of" s_closing_of P_closing_of S_closing_of := j_closing_of gs (fx_closing_of X G c) c_lows c_hill_of_lows
    have c_is_hill_value : Cal (PySem.Challenge.rw_pourasked_k87_whole_carried_back).prog w K mg base ⟨dkn, []⟩ 5 "is_hill_value" s_is_hill_value P_is_hill_value S_is_hill_value := j_is_hill_value gs (fx_is_hill_value X G c) c_is_book_value c_closing_of
    have c_need_hill : Cal (PySem.Challenge.rw_pourasked_k87_whole_carried_back).prog w K mg base ⟨dkn, []⟩ 6 "need_hill" s_need_hill P_need_hill S_need_hill := j_need_hill gs (fx_need_hill X G c) c_is_hill_value
    have c_mask_of : Cal (PySem.Challenge.rw_pourasked_k87_whole_carried_back).prog w K mg base ⟨dkn, []⟩ 1 "mask_of" s_mask_of P_mask_of S_mask_of := j_mask_of gs (fx_mask_of X G c)
    have c_lot_of : Cal (PySem.Challenge.rw_pourasked_k87_whole_carried_back).prog w K mg base ⟨dkn, []⟩ 1 "lot_of" s_lot_of P_lot_of S_lot_of := j_lot_of gs (fx_lot_of X G c)
    have c_is_lot_value : Cal (PySem.Challenge.rw_pourasked_k87_whole_carried_back).prog w K mg base ⟨dkn, []⟩ 3 "is_lot_value" s_is_lot_value P_is_lot_value S_is_lot_value := j_is_lot_value gs (fx_is_lot_value X G c) c_is_between
    have c_closed_mask : Cal (PySem.Challenge.rw_pourasked_k87_whole_carried_back).prog w K mg base ⟨dkn, []⟩ 2 "closed_mask" s_closed_mask P_closed_mask S_closed_mask := j_closed_mask gs (fx_closed_mask X G c) c_lot_of
    have c_lower_mask : Cal (PySem.Challenge.rw_pourasked_k87_whole_carried_back).prog w K mg base ⟨dkn, []⟩ 3 "lower_mask" s_lower_mask P_lower_mask S_lower_mask := j_lower_mask gs (fx_lower_mask X G c) c_closed_mask c_lows
    have c_is_lower_value : Cal (PySem.Challenge.rw_pourasked_k87_whole_carried_back).prog w K mg base ⟨dkn, []⟩ 4 "is_lower_value" s_is_lower_value P_is_lower_value S_is_lower_value := j_is_lower_value gs (fx_is_lower_value X G c) c_is_lot_value c_lower_mask c_mask_of
    have c_ends_of : Cal (PySem.Challenge.rw_pourasked_k87_whole_carried_back).prog w K mg base ⟨dkn, []⟩ 2 "ends_of" s_ends_of P_ends_of S_ends_of := j_ends_of gs (fx_ends_of X G c) c_lot_of
    have c_highest_of : Cal (PySem.Challenge.rw_pourasked_k87_whole_carried_back).prog w K mg base ⟨dkn, []⟩ 3 "highest_of" s_highest_of P_highest_of S_highest_of := j_highest_of gs (fx_highest_of X G c) c_ends_of c_highs c_lows
    have c_lowest_of : Cal (PySem.Challenge.rw_pourasked_k87_whole_carried_back).prog w K mg base ⟨dkn, []⟩ 3 "lowest_of" s_lowest_of P_lowest_of S_lowest_of := j_lowest_of gs (fx_lowest_of X G c) c_ends_of c_lows c_highs
    have c_is_deed_value : Cal (PySem.Challenge.rw_pourasked_k87_whole_carried_back).prog w K mg base ⟨dkn, []⟩ 3 "is_deed_value" s_is_deed_value P_is_deed_value S_is_deed_value := j_is_deed_value gs (fx_is_deed_value X G c) c_is_between
    have c_is_script_value : Cal (PySem.Challenge.rw_pourasked_k87_whole_carried_back).prog w K mg base ⟨dkn, []⟩ 4 "is_script_value" s_is_script_value P_is_script_value S_is_script_value := j_is_script_value gs (fx_is_script_value X G c) c_is_deed_value
    have c_need_script : Cal (PySem.Challenge.rw_pourasked_k87_whole_carried_back).prog w K mg base ⟨dkn, []⟩ 5 "need_script" s_need_script P_need_script S_need_script := j_need_script gs (fx_need_script X G c) c_is_script_value
    have c_reaches : Cal (PySem.Challenge.rw_pourasked_k87_whole_carried_back).prog w K mg base ⟨dkn, []⟩ 2 "reaches" s_reaches P_reaches S_reaches := j_reaches gs (fx_reaches X G c) c_lows c_highs
    have c_reach_mask : Cal (PySem.Challenge.rw_pourasked_k87_whole_carried_back).prog w K mg base ⟨dkn, []⟩ 3 "reach_mask" s_reach_mask P_reach_mask S_reach_mask := j_reach_mask gs (fx_reach_mask X G c) c_reaches
    have c_done : Cal (PySem.Challenge.rw_pourasked_k87_whole_carried_back).prog w K mg base ⟨dkn, []⟩ 3 "done" s_done P_done S_done := j_done gs (fx_done X G c) c_reaches
    have c_couple_masks : Cal (PySem.Challenge.rw_pourasked_k87_whole_carried_back).prog w K mg base ⟨dkn, []⟩ 3 "couple_masks" s_couple_masks P_couple_masks S_couple_masks := j_couple_masks gs (fx_couple_masks X G c) c_reaches
    have c_need_hills : Cal (PySem.Challenge.rw_pourasked_k87_whole_carried_back).prog w K mg base ⟨dkn, []⟩ 7 "need_hills" s_need_hills P_need_hills S_need_hills := j_need_hills gs (fx_need_hills X G c) c_need_hill
    have c_is_map_value : Cal (PySem.Challenge.rw_pourasked_k87_whole_carried_back).prog w K mg base ⟨dkn, []⟩ 3 "is_map_value" s_is_map_value P_is_map_value S_is_map_value := j_is_map_value gs (fx_is_map_value X G c) c_is_between c_lows
    have c_need_map : Cal (PySem.Challenge.rw_pourasked_k87_whole_carried_back).prog w K mg base ⟨dkn, []⟩ 8 "need_map" s_need_map P_need_map S_need_map := j_need_map gs (fx_need_map X G c) c_need_hills c_is_map_value
    have c_need_water_maps : Cal (PySem.Challenge.rw_pourasked_k87_whole_carried_back).prog w K mg base ⟨dkn, []⟩ 5 "need_water_maps" s_need_water_maps P_need_water_maps S_need_water_maps := j_need_water_maps gs (fx_need_water_maps X G c) c_is_lower_value
    have c_carried_mask : Cal (PySem.Challenge.rw_pourasked_k87_whole_carried_back).prog w K mg base ⟨dkn, []⟩ 2 "carried_mask" s_carried_mask P_carried_mask S_carried_mask := j_carried_mask gs (fx_carried_mask X G c) c_mask_of
    have c_carried_water : Cal (PySem.Challenge.rw_pourasked_k87_whole_carried_back).prog w K mg base ⟨dkn, []⟩ 9 "carried_water" s_carried_water P_carried_water S_carried_water := j_carried_water gs (fx_carried_water X G c) c_need_map c_need_water_maps c_lot_of c_carried_mask c_mask_of
    have c_carried_terraces : Cal (PySem.Challenge.rw_pourasked_k87_whole_carried_back).prog w K mg base ⟨dkn, []⟩ 4 "carried_terraces" s_carried_terraces P_carried_terraces S_carried_terraces := j_carried_terraces gs (fx_carried_terraces X G c) c_carried_mask c_reach_mask c_highest_of c_lowest_of
    have c_deeds_carried : Cal (PySem.Challenge.rw_pourasked_k87_whole_carried_back).prog w K mg base ⟨dkn, []⟩ 5 "deeds_carried" s_deeds_carried P_deeds_carried S_deeds_carried := j_deeds_carried gs (fx_deeds_carried X G c) c_carried_terraces
    have c_carried_deed : Cal (PySem.Challenge.rw_pourasked_k87_whole_carried_back).prog w K mg base ⟨dkn, []⟩ 9 "carried_deed" s_carried_deed P_carried_deed S_carried_deed := j_carried_deed gs (fx_carried_deed X G c) c_need_map c_is_deed_value c_deeds_carried
    have c_carried_script : Cal (PySem.Challenge.rw_pourasked_k87_whole_carried_back).prog w K mg base ⟨dkn, []⟩ 9 "carried_script" s_carried_script P_carried_script S_carried_script := j_carried_script gs (fx_carried_script X G c) c_need_map c_is_script_value c_deeds_carried
    have c_is_water : Cal (PySem.Challenge.rw_pourasked_k87_whole_carried_back).prog w K mg base ⟨dkn, []⟩ 7 "is_water" s_is_water P_is_water S_is_water := j_is_water gs (fx_is_water X G c) c_need_hill c_is_lower_value
    have c_need_water_scripts : Cal (PySem.Challenge.rw_pourasked_k87_whole_carried_back).prog w K mg base ⟨dkn, []⟩ 7 "need_water_scripts" s_need_water_scripts P_need_water_scripts S_need_water_scripts := j_need_water_scripts gs (fx_need_water_scripts X G c) c_need_hill c_is_lower_value
    have c_reach : Cal (PySem.Challenge.rw_pourasked_k87_whole_carried_back).prog w K mg base ⟨dkn, []⟩ 7 "reach" s_reach P_reach S_reach := j_reach gs (fx_reach X G c) c_need_hill c_is_deed_value c_lot_of c_reach_mask
    have c_run : Cal (PySem.Challenge.rw_pourasked_k87_whole_carried_back).prog w K mg base ⟨dkn, []⟩ 8 "run" s_run P_run S_run := j_run gs (fx_run X G c) c_need_water_scripts c_need_script c_lot_of c_done c_mask_of
    have c_raw_couple : Cal (PySem.Challenge.rw_pourasked_k87_whole_carried_back).prog w K mg base ⟨dkn, []⟩ 4 "raw_couple" s_raw_couple P_raw_couple S_raw_couple := j_raw_couple gs (fx_raw_couple X G c) c_couple_masks c_lot_of
    have c_couple_of : Cal (PySem.Challenge.rw_pourasked_k87_whole_carried_back).prog w K mg base ⟨dkn, []⟩ 7 "couple_of" s_couple_of P_couple_of S_couple_of := j_couple_of gs (fx_couple_of X G c) c_need_hill c_need_script c_raw_couple
    have c__law_deck : Cal (PySem.Challenge.rw_pourasked_k87_whole_carried_back).prog w K mg base ⟨dkn, []⟩ 1 "_law_deck" s__law_deck P__law_deck S_deck := j__law_deck gs (fx__law_deck X G c)
    have c__law_draw : Cal (PySem.Challenge.rw_pourasked_k87_whole_carried_back).prog w K mg base ⟨dkn, []⟩ 1 "_law_draw" s__law_draw P__law_draw S_draw := j__law_draw gs (fx__law_draw X G c)
    have c__law_pick : Cal (PySem.Challenge.rw_pourasked_k87_whole_carried_back).prog w K mg base ⟨dkn, []⟩ 2 "_law_pick" s__law_pick P__law_pick S_pick := j__law_pick gs (fx__law_pick X G c) c__law_draw
    have c__law_shuffled : Cal (PySem.Challenge.rw_pourasked_k87_whole_carried_back).prog w K mg base ⟨dkn, []⟩ 2 "_law_shuffled" s__law_shuffled P__law_shuffled S_shuffled := j__law_shuffled gs (fx__law_shuffled X G c) c__law_draw
    have c__law_closed : Cal (PySem.Challenge.rw_pourasked_k87_whole_carried_back).prog w K mg base ⟨dkn, []⟩ 1 "_law_closed" s__law_closed P__law_closed S_lclosed := j__law_closed gs (fx__law_closed X G c)
    have c__law_hill : Cal (PySem.Challenge.rw_pourasked_k87_whole_carried_back).prog w K mg base ⟨dkn, []⟩ 3 "_law_hill" s__law_hill P__law_hill S_hill := j__law_hill gs (fx__law_hill X G c) c__law_draw c__law_shuffled c__law_closed
    have c__law_sides : Cal (PySem.Challenge.rw_pourasked_k87_whole_carried_back).prog w K mg base ⟨dkn, []⟩ 1 "_law_sides" s__law_sides P__law_sides S_sides := j__law_sides gs (fx__law_sides X G c)
    have c__law_closing : Cal (PySem.Challenge.rw_pourasked_k87_whole_carried_back).prog w K mg base ⟨dkn, []⟩ 1 "_law_closing" s__law_closing P__law_closing S_lclosing := j__law_closing gs (fx__law_closing X G c)
    have c__law_outer : Cal (PySem.Challenge.rw_pourasked_k87_whole_carried_back).prog w K mg base ⟨dkn, []⟩ 1 "_law_outer" s__law_outer P__law_outer S_outer := j__law_outer gs (fx__law_outer X G c)
    have c__law_lasts : Cal (PySem.Challenge.rw_pourasked_k87_whole_carried_back).prog w K mg base ⟨dkn, []⟩ 1 "_law_lasts" s__law_lasts P__law_lasts S_lasts := j__law_lasts gs (fx__law_lasts X G c)
    have c__law_couple : Cal (PySem.Challenge.rw_pourasked_k87_whole_carried_back).prog w K mg base ⟨dkn, []⟩ 2 "_law_couple" s__law_couple P__law_couple S_lcouple := j__law_couple gs (fx__law_couple X G c) c__law_lasts
    have c__law_script : Cal (PySem.Challenge.rw_pourasked_k87_whole_carried_back).prog w K mg base ⟨dkn, []⟩ 3 "_law_script" s__law_script P__law_script S_lscript := j__law_script gs (fx__law_script X G c) c__law_draw c__law_pick
    have c__law_lot : Cal (PySem.Challenge.rw_pourasked_k87_whole_carried_back).prog w K mg base ⟨dkn, []⟩ 3 "_law_lot" s__law_lot P__law_lot S_llot := j__law_lot gs (fx__law_lot X G c) c__law_pick c__law_draw
    have c__law_led : Cal (PySem.Challenge.rw_pourasked_k87_whole_carried_back).prog w K mg base ⟨dkn, []⟩ 2 "_law_led" s__law_led P__law_led S_led := j__law_led gs (fx__law_led X G c) c__law_draw c__law_closed
    have c__law_leading : Cal (PySem.Challenge.rw_pourasked_k87_whole_carried_back).prog w K mg base ⟨dkn, []⟩ 2 "_law_leading" s__law_leading P__law_leading S_leading := j__law_leading gs (fx__law_leading X G c) c__law_draw c__law_sides c__law_closed
    have c__law_mapped : Cal (PySem.Challenge.rw_pourasked_k87_whole_carried_back).prog w K mg base ⟨dkn, []⟩ 4 "_law_mapped" s__law_mapped P__law_mapped S_mapped := j__law_mapped gs (fx__law_mapped X G c) c__law_draw c__law_hill c__law_led c__law_leading
    have c__law_carried : Cal (PySem.Challenge.rw_pourasked_k87_whole_carried_back).prog w K mg base ⟨dkn, []⟩ 1 "_law_carried" s__law_carried P__law_carried S_lcarried := j__law_carried gs (fx__law_carried X G c)
    have c__law_due : Cal (PySem.Challenge.rw_pourasked_k87_whole_carried_back).prog w K mg base ⟨dkn, []⟩ 2 "_law_due" s__law_due P__law_due S_ldue := j__law_due gs (fx__law_due X G c) c__law_carried c__law_sides c__law_outer
    have c__law_are_deeds_right : Cal (PySem.Challenge.rw_pourasked_k87_whole_carried_back).prog w K mg base ⟨dkn, []⟩ 10 "_law_are_deeds_right" s__law_are_deeds_right P__law_are_deeds_right S_deedsR := j__law_are_deeds_right gs (fx__law_are_deeds_right X G c) c__law_due c_carried_deed c_reach c__law_carried c_carried_script
    have c__law_told_couple : Cal (PySem.Challenge.rw_pourasked_k87_whole_carried_back).prog w K mg base ⟨dkn, []⟩ 8 "_law_told_couple" s__law_told_couple P__law_told_couple S_told := j__law_told_couple gs (fx__law_told_couple X G c) c_couple_of c__law_couple c__law_sides
    have c__law_is_led_right : Cal (PySem.Challenge.rw_pourasked_k87_whole_carried_back).prog w K mg base ⟨dkn, []⟩ 10 "_law_is_led_right" s__law_is_led_right P__law_is_led_right S_ledR := j__law_is_led_right gs (fx__law_is_led_right X G c) c_carried_water c_carried_script c__law_carried c_is_water c_run c__law_couple c__law_sides c__law_told_couple c_couple_of
    have c__law_is_twice_right : Cal (PySem.Challenge.rw_pourasked_k87_whole_carried_back).prog w K mg base ⟨dkn, []⟩ 10 "_law_is_twice_right" s__law_is_twice_right P__law_is_twice_right S_twiceR := j__law_is_twice_right gs (fx__law_is_twice_right X G c) c_carried_script c_carried_water c__law_told_couple
    exact j_law gs c__law_deck c__law_mapped c__law_pick c__law_script c__law_draw c__law_closing c__law_sides c__law_lot c__law_are_deeds_right c__law_is_led_right c_carried_water c_run c_carried_script c__law_led c__law_is_twice_right F
end
end L87
open PySem PySem.W PySem.Calls PyProof.Rows
theorem PySem.Challenge.cw_pourasked_k87_whole_carried_back_holds : PySem.Challenge.rw_pourasked_k87_whole_carried_back.Holds := by
  w_on; o_law
  refine HandSHeadRun.head_any (r := OpenLaw.row PySem.Challenge.rw_pourasked_k87_whole_carried_back) (q := view (OpenLaw.row PySem.Challenge.rw_pourasked_k87_whole_carried_back).prog [80]) (H := L87.hk) (ob := L87.ob) (M := 4000) (loose := L87.lse) (d := HandSHeadRun.topDef (OpenLaw.row PySem.Challenge.rw_pourasked_k87_whole_carried_back).prog 80) (kwd := []) L87.ob_eq
    (by kernel_rfl) (fun s => by kernel_rfl) L87.run (by kernel_rfl) (by kernel_rfl) (by kernel_rfl) (by rfl) (by first | assumption | decide +kernel) (by decide +kernel) ⟨rfl, rfl, rfl, rfl, rfl, by decide +kernel⟩ ?hw ?hc
  case hw => w_witness2
  case hc =>
    refine DL.walk_ofG (l := PySem.Challenge.rw_pourasked_k87_whole_carried_back) (n := 63) (k := 11) (x := "script") rfl (by decide) (by kernel_rfl) ⟨rfl, by decide, by decide⟩ ?F
    intro w mg fa h Y G hmg0
    obtain ⟨K, KX, c⟩ := Y
    have hmg : mg ("law" : PySem.Str) = some (.ref fa) := by
      have e : (HandSHeadRun.topDef (OpenLaw.row PySem.Challenge.rw_pourasked_k87_whole_carried_back).prog 80).name = ("law" : PySem.Str) := by kernel_rfl
      rw [← e]
      exact hmg0
    exact ⟨K, KX, L87.facts KX G hmg c⟩
