import PyProof.Rows.All
import Wide.All
import OpenK.AllK
import Wide.FinOn
import HandS.ForMost
import HandS.Deep
import HandS.Conv
import HandS.Style
import HandS.TupAny
import HandS.IsInst
import HandS.Flow
import HandS.Zip
import HandS.WideMore
import HandS.Defaults
import HandS.Lambda
import KE.GoesEnum
import KE.GoesMore
import HandS.TupLe
import HandS.SortOrd
import KE.SortKeyed
import HandS.WideBits
import HandS.Nested
import HandS.Head0
import HandS.Head1
import HandS.Head2
import HandS.HeadEnd
import HandS.HeadHook4
import HandS.HeadWalk
import PySem.Challenge.RW_pourasked_k89_whole_echoes_by_all_trials
set_option Elab.async false
set_option linter.all false
set_option maxRecDepth 100000
set_option maxHeartbeats 1000000
namespace DL
open PySem PySem.Spec PyProof.Rows L2
abbrev D := PyData
/-- a lambda's text: its name, its parameters, its body, its scope, the names that it captures -/
structure LamI where
  qual : Str
  params : Arguments
  body : Expr
  scope : Scope
  fr : List Str
inductive Cell where
  | un
  | im (d : D)
  | ow (cs : List Cell)
  | dk (ks : List Key) (cs : List Cell)
  | dt (ks : List (List Key)) (cs : List Cell)
  | fk (ks : List Key) (cs : List Cell)
  | ft (ks : List (List Key)) (cs : List Cell)
  | deck
  | fn (L : LamI) (ds : List D)
theorem SqT.mono {K : PySem.W.Frag} {H H' : Hp} {a : Addr} {xs : List V} (e : Same H H') (h : SqT K H a xs) : SqT K H' a xs := by
  rcases h with (h | ⟨o, h⟩) | h
  · exact .inl (.inl (e _ _ h))
  · exact .inl (.inr ⟨o, e _ _ h⟩)
  · exact .inr h
mutual
theorem Dp.mono {K : PySem.W.Frag} {H H' : Hp} (e : Same H H') : ∀ {v : V} {d : D}, Dp K H v d → Dp K H' v d
  | _, _, .non => .non
  | _, _, .bl b => .bl b
  | _, _, .int i => .int i
  | _, _, .str x => .str x
  | _, _, .lst h hs => .lst (e.seq h) (DpAll.mono e hs)
  | _, _, .tup h hs => .tup (SqT.mono e h) (DpAll.mono e hs)
theorem DpAll.mono {K : PySem.W.Frag} {H H' : Hp} (e : Same H H') : ∀ {vs : List V} {ds : List D}, DpAll K H vs ds → DpAll K H' vs ds
  | _, _, .nil => .nil
  | _, _, .cons h hs => .cons (Dp.mono e h) (DpAll.mono e hs)
end
theorem DpAll.length {K : PySem.W.Frag} {H : Hp} : ∀ {vs : List V} {ds : List D}, DpAll K H vs ds → vs.length = ds.length
  | _, _, .nil => rfl
  | _, _, .cons _ hs => by rw [List.length_cons, List.length_cons, DpAll.length hs]
theorem DpAll.get {K : PySem.W.Frag} {H : Hp} : ∀ {vs : List V} {ds : List D} {i : Nat} {d : D}, DpAll K H vs ds → ds[i]? = some d → ∃ v, vs[i]? = some v ∧ Dp K H v d
  | _, _, _, _, .nil, e => by simp at e
  | _, _, 0, _, .cons h _, e => by simp at e; subst e; exact ⟨_, rfl, h⟩
  | _, _, i + 1, _, .cons _ hs, e => by
    obtain ⟨v, h1, h2⟩ := DpAll.get (i := i) hs (by simpa using e)
    exact ⟨v, by simpa using h1, h2⟩
theorem DpAll.getV {K : PySem.W.Frag} {H : Hp} : ∀ {vs : List V} {ds : List D} {i : Nat} {v : V}, DpAll K H vs ds → vs[i]? = some v → ∃ d, ds[i]? = some d ∧ Dp K H v d
  | _, _, _, _, .nil, e => by simp at e
  | _, _, 0, _, .cons h _, e => by simp at e; subst e; exact ⟨_, rfl, h⟩
  | _, _, i + 1, _, .cons _ hs, e => by
    obtain ⟨v, h1, h2⟩ := DpAll.getV (i := i) hs (by simpa using e)
    exact ⟨v, by simpa using h1, h2⟩
theorem DpAll.app {K : PySem.W.Frag} {H : Hp} : ∀ {vs ws : List V} {ds es : List D}, DpAll K H vs ds → DpAll K H ws es → DpAll K H (vs ++ ws) (ds ++ es)
  | _, _, _, _, .nil, h => h
  | _, _, _, _, .cons h hs, h' => .cons h (DpAll.app hs h')
theorem DpAll.drop {K : PySem.W.Frag} {H : Hp} : ∀ {vs : List V} {ds : List D} (n : Nat), DpAll K H vs ds → DpAll K H (vs.drop n) (ds.drop n)
  | _, _, 0, h => h
  | _, _, _ + 1, .nil => .nil
  | _, _, n + 1, .cons _ hs => DpAll.drop n hs
theorem DpAll.take {K : PySem.W.Frag} {H : Hp} : ∀ {vs : List V} {ds : List D} (n : Nat), DpAll K H vs ds → DpAll K H (vs.take n) (ds.take n)
  | _, _, 0, _ => .nil
  | _, _, _ + 1, .nil => .nil
  | _, _, n + 1, .cons h hs => .cons h (DpAll.take n hs)
theorem DpAll.rev {K : PySem.W.Frag} {H : Hp} : ∀ {vs : List V} {ds : List D}, DpAll K H vs ds → DpAll K H vs.reverse ds.reverse
  | _, _, .nil => .nil
  | _, _, .cons h hs => by
    rw [List.reverse_cons, List.reverse_cons]
    exact DpAll.app (DpAll.rev hs) (.cons h .nil)
theorem DpAll.set {K : PySem.W.Frag} {H : Hp} {v : V} {d : D} (h : Dp K H v d) : ∀ {vs : List V} {ds : List D} (n : Nat), DpAll K H vs ds → DpAll K H (vs.set n v) (ds.set n d)
  | _, _, _, .nil => .nil
  | _, _, 0, .cons _ hs => .cons h hs
  | _, _, n + 1, .cons h' hs => .cons h' (DpAll.set h n hs)
theorem DpAll.ints {K : PySem.W.Frag} {H : Hp} : ∀ {vs : List V} {ns : List Int}, DpAll K H vs (ns.map PyData.int) → vs = ns.map V.int
  | [], [], _ => rfl
  | v :: vs, n :: ns, h => by
    cases h with
    | cons h1 h2 => cases h1; rw [List.map_cons, DpAll.ints h2]
theorem DpAll.bls {K : PySem.W.Frag} {H : Hp} : ∀ {vs : List V} {ns : List Bool}, DpAll K H vs (ns.map PyData.bool) → vs = ns.map V.bl
  | [], [], _ => rfl
  | v :: vs, n :: ns, h => by
    cases h with
    | cons h1 h2 => cases h1; rw [List.map_cons, DpAll.bls h2]
theorem DpAll.strs {K : PySem.W.Frag} {H : Hp} : ∀ {vs : List V} {ns : List Str}, DpAll K H vs (ns.map PyData.str) → vs = ns.map V.str
  | [], [], _ => rfl
  | v :: vs, n :: ns, h => by
    cases h with
    | cons h1 h2 => cases h1; rw [List.map_cons, DpAll.strs h2]
/-- the object at a is o -/
def ObX (a : Addr) (o : Obj) : HO := .ext fun h => h.get? a = some o
structure Capt (K : PySem.W.Frag) (F : Hp) (cl : List (Str × Addr)) (fr : List Str) (ds : List D) : Prop where
  len : ds.length = fr.length
  inj : ∀ x y c, cl.lookup x = some c → cl.lookup y = some c → x = y
  has : ∀ (i : Nat) (y : Str), fr[i]? = some y → ∃ c v d ob u, cl.lookup y = some c ∧ ds[i]? = some d ∧ Dp K F v d ∧ F c = some (ObX c ob) ∧ ob.data = .cell (some u) ∧ RelV v u
  only : ∀ y c, cl.lookup y = some c → y ∈ fr
theorem Capt.mono {K : PySem.W.Frag} {F F' : Hp} {cl : List (Str × Addr)} {fr : List Str} {ds : List D} (h : Capt K F cl fr ds) (e : Same F F') : Capt K F' cl fr ds :=
  ⟨h.len, h.inj, fun i y k => by
    obtain ⟨c, v, d, ob, u, h1, h2, h3, h4, h5⟩ := h.has i y k
    exact ⟨c, v, d, ob, u, h1, h2, Dp.mono e h3, e _ _ h4, h5⟩, h.only⟩
mutual
inductive CR (K : PySem.W.Frag) (da : Option Addr) (F H : Hp) : V → Cell → List Addr → Prop
  | un {v : V} : CR K da F H v .un []
  | im {v : V} {d : D} : Dp K F v d → CR K da F H v (.im d) []
  | ow {a : Addr} {vs : List V} {cs : List Cell} {fp : List Addr} : H a = some (.lst vs) → CRs K da F H vs cs fp → CR K da F H (.ref a) (.ow cs) (a :: fp)
  | dk {a : Addr} {ks : List Key} {vs : List V} {cs : List Cell} {fp : List Addr} : H a = some (.dK (ks.zip vs)) → ks.length = vs.length → CRs K da F H vs cs fp → CR K da F H (.ref a) (.dk ks cs) (a :: fp)
  | dt {a : Addr} {ks : List (List Key)} {vs : List V} {cs : List Cell} {fp : List Addr} : H a = some (.dT (ks.zip vs)) → ks.length = vs.length → CRs K da F H vs cs fp → CR K da F H (.ref a) (.dt ks cs) (a :: fp)
  | fk {a : Addr} {ks : List Key} {vs : List V} {cs : List Cell} : F a = some (.dK (ks.zip vs)) → ks.length = vs.length → CRs K da F H vs cs [] → CR K da F H (.ref a) (.fk ks cs) []
  | ft {a : Addr} {ks : List (List Key)} {vs : List V} {cs : List Cell} : F a = some (.dT (ks.zip vs)) → ks.length = vs.length → CRs K da F H vs cs [] → CR K da F H (.ref a) (.ft ks cs) []
  | deck {a : Addr} : da = some a → CR K da F H (.ref a) .deck []
  | fn {f c : Addr} {cl : List (Str × Addr)} {pm ctv : Value} {L : LamI} {ds : List D} : F f = some (ObX f (PySem.W.kla_obj "<lambda>" L.qual L.params L.body L.scope cl pm c ctv)) → F c = some (LamX.CodeO c L.qual) → Capt K F cl L.fr ds → CR K da F H (.ref f) (.fn L ds) []
inductive CRs (K : PySem.W.Frag) (da : Option Addr) (F H : Hp) : List V → List Cell → List Addr → Prop
  | nil : CRs K da F H [] [] []
  | cons {v : V} {vs : List V} {c : Cell} {cs : List Cell} {f fp : List Addr} : CR K da F H v c f → CRs K da F H vs cs fp → CRs K da F H (v :: vs) (c :: cs) (f ++ fp)
end
section
variable {K : PySem.W.Frag} {da : Option Addr} {F H F' H' : Hp}
mutual
theorem CR.mono (e : Same F F') : ∀ {v : V} {c : Cell} {fp : List Addr}, CR K da F H v c fp → (∀ a ∈ fp, ∀ o, H a = some o → H' a = some o) → CR K da F' H' v c fp
  | _, _, _, .un, _ => .un
  | _, _, _, .im h, _ => .im (Dp.mono e h)
  | _, _, _, .ow h hs, k => .ow (k _ List.mem_cons_self _ h) (CRs.mono e hs fun a ha => k a (List.mem_cons_of_mem _ ha))
  | _, _, _, .dk h l hs, k => .dk (k _ List.mem_cons_self _ h) l (CRs.mono e hs fun a ha => k a (List.mem_cons_of_mem _ ha))
  | _, _, _, .dt h l hs, k => .dt (k _ List.mem_cons_self _ h) l (CRs.mono e hs fun a ha => k a (List.mem_cons_of_mem _ ha))
  | _, _, _, .fk h l hs, k => .fk (e _ _ h) l (CRs.mono e hs k)
  | _, _, _, .ft h l hs, k => .ft (e _ _ h) l (CRs.mono e hs k)
  | _, _, _, .deck h, _ => .deck h
  | _, _, _, .fn h1 h2 h3, _ => .fn (e _ _ h1) (e _ _ h2) (h3.mono e)
theorem CRs.mono (e : Same F F') : ∀ {vs : List V} {cs : List Cell} {fp : List Addr}, CRs K da F H vs cs fp → (∀ a ∈ fp, ∀ o, H a = some o → H' a = some o) → CRs K da F' H' vs cs fp
  | _, _, _, .nil, _ => .nil
  | _, _, _, .cons h hs, k => .cons (CR.mono e h fun a ha => k a (List.mem_append_left _ ha)) (CRs.mono e hs fun a ha => k a (List.mem_append_right _ ha))
end
mutual
theorem CR.there : ∀ {v : V} {c : Cell} {fp : List Addr}, CR K da F H v c fp → ∀ a ∈ fp, ∃ o, H a = some o
  | _, _, _, .un, _, h => nomatch h
  | _, _, _, .im _, _, h => nomatch h
  | _, _, _, .ow h hs, a, m => by
    rcases List.mem_cons.mp m with e | m
    · subst e; exact ⟨_, h⟩
    · exact CRs.there hs a m
  | _, _, _, .dk h _ hs, a, m => by
    rcases List.mem_cons.mp m with e | m
    · subst e; exact ⟨_, h⟩
    · exact CRs.there hs a m
  | _, _, _, .dt h _ hs, a, m => by
    rcases List.mem_cons.mp m with e | m
    · subst e; exact ⟨_, h⟩
    · exact CRs.there hs a m
  | _, _, _, .fk _ _ _, _, h => nomatch h
  | _, _, _, .ft _ _ _, _, h => nomatch h
  | _, _, _, .deck _, _, h => nomatch h
  | _, _, _, .fn _ _ _, _, h => nomatch h
theorem CRs.there : ∀ {vs : List V} {cs : List Cell} {fp : List Addr}, CRs K da F H vs cs fp → ∀ a ∈ fp, ∃ o, H a = some o
  | _, _, _, .nil, _, h => nomatch h
  | _, _, _, .cons h hs, a, m => by
    rcases List.mem_append.mp m with m | m
    · exact CR.there h a m
    · exact CRs.there hs a m
end
mutual
/-- what is owned is a list or a dict -/
theorem CR.noext : ∀ {v : V} {c : Cell} {fp : List Addr}, CR K da F H v c fp → ∀ a ∈ fp, ∀ φ, H a ≠ some (.ext φ)
  | _, _, _, .un, _, h => nomatch h
  | _, _, _, .im _, _, h => nomatch h
  | _, _, _, .ow h hs, a, m => by
    rcases List.mem_cons.mp m with e | m
    · subst e; intro φ z; rw [h] at z; cases z
    · exact CRs.noext hs a m
  | _, _, _, .dk h _ hs, a, m => by
    rcases List.mem_cons.mp m with e | m
    · subst e; intro φ z; rw [h] at z; cases z
    · exact CRs.noext hs a m
  | _, _, _, .dt h _ hs, a, m => by
    rcases List.mem_cons.mp m with e | m
    · subst e; intro φ z; rw [h] at z; cases z
    · exact CRs.noext hs a m
  | _, _, _, .fk _ _ _, _, h => nomatch h
  | _, _, _, .ft _ _ _, _, h => nomatch h
  | _, _, _, .deck _, _, h => nomatch h
  | _, _, _, .fn _ _ _, _, h => nomatch h
theorem CRs.noext : ∀ {vs : List V} {cs : List Cell} {fp : List Addr}, CRs K da F H vs cs fp → ∀ a ∈ fp, ∀ φ, H a ≠ some (.ext φ)
  | _, _, _, .nil, _, h => nomatch h
  | _, _, _, .cons h hs, a, m => by
    rcases List.mem_append.mp m with m | m
    · exact CR.noext h a m
    · exact CRs.noext hs a m
end
theorem CRs.length : ∀ {vs : List V} {cs : List Cell} {fp : List Addr}, CRs K da F H vs cs fp → vs.length = cs.length
  | _, _, _, .nil => rfl
  | _, _, _, .cons _ hs => by rw [List.length_cons, List.length_cons, CRs.length hs]
theorem CRs.app : ∀ {vs ws : List V} {cs es : List Cell} {fp fq : List Addr}, CRs K da F H vs cs fp → CRs K da F H ws es fq → CRs K da F H (vs ++ ws) (cs ++ es) (fp ++ fq)
  | _, _, _, _, _, _, .nil, h => h
  | _, _, _, _, _, _, .cons h hs, h' => by
    rw [List.append_assoc]
    exact .cons h (CRs.app hs h')
theorem CRs.one {v : V} {c : Cell} {f : List Addr} (h : CR K da F H v c f) : CRs K da F H [v] [c] f := by
  have := CRs.cons h (CRs.nil (K := K) (da := da) (F := F) (H := H))
  rwa [List.append_nil] at this
/-- a list of data as cells -/
theorem CRs.ofDp : ∀ {vs : List V} {ds : List D}, DpAll K F vs ds → CRs K da F H vs (ds.map .im) []
  | _, _, .nil => .nil
  | _, _, .cons h hs => CRs.cons (f := []) (.im h) (CRs.ofDp hs)
theorem CRs.toDp : ∀ {vs : List V} {ds : List D} {fp : List Addr}, CRs K da F H vs (ds.map .im) fp → DpAll K F vs ds ∧ fp = []
  | [], [], _, h => by cases h; exact ⟨.nil, rfl⟩
  | v :: vs, d :: ds, _, h => by
    cases h with
    | cons h hs =>
      cases h with
      | im h =>
        obtain ⟨h1, e⟩ := CRs.toDp hs
        subst e
        exact ⟨.cons h h1, rfl⟩
theorem CRs.get : ∀ {vs : List V} {cs : List Cell} {fp : List Addr} {i : Nat} {c : Cell}, CRs K da F H vs cs fp → cs[i]? = some c → ∃ v f, vs[i]? = some v ∧ CR K da F H v c f ∧ (∀ a ∈ f, a ∈ fp) ∧ (fp.Nodup → f.Nodup)
  | _, _, _, _, _, .nil, e => by simp at e
  | _, _, _, 0, _, .cons h _, e => by
    simp at e; subst e
    exact ⟨_, _, rfl, h, fun a m => List.mem_append_left _ m, fun n => (List.nodup_append.mp n).1⟩
  | _, _, _, i + 1, _, .cons _ hs, e => by
    obtain ⟨v, f, h1, h2, h3, h4⟩ := CRs.get (i := i) hs (by simpa using e)
    exact ⟨v, f, by simpa using h1, h2, fun a m => List.mem_append_right _ (h3 a m), fun n => h4 (List.nodup_append.mp n).2.1⟩
/-- an item replaced: what is owned is at most what was and the new one's -/
theorem CRs.set {v : V} {c : Cell} {f : List Addr} (h : CR K da F H v c f) : ∀ {vs : List V} {cs : List Cell} {fp : List Addr} (i : Nat), CRs K da F H vs cs fp → ∃ fp', CRs K da F H (vs.set i v) (cs.set i c) fp' ∧ (∀ a ∈ fp', a ∈ f ∨ a ∈ fp) ∧ ((f ++ fp).Nodup → fp'.Nodup)
  | _, _, _, _, .nil => ⟨[], .nil, fun _ z => (nomatch z), fun _ => List.nodup_nil⟩
  | _, _, _, 0, .cons (f := f0) (fp := fp0) _ hs => ⟨f ++ fp0, .cons h hs, fun a m => by
      rcases List.mem_append.mp m with m | m
      · exact .inl m
      · exact .inr (List.mem_append_right _ m), fun n => by
      obtain ⟨n1, n2, n3⟩ := List.nodup_append.mp n
      exact List.nodup_append.mpr ⟨n1, (List.nodup_append.mp n2).2.1, fun a ha b hb => n3 a ha b (List.mem_append_right _ hb)⟩⟩
  | _, _, _, i + 1, .cons (f := f0) (fp := fp0) h0 hs => by
    obtain ⟨fp', q1, q2, q3⟩ := CRs.set h i hs
    refine ⟨f0 ++ fp', .cons h0 q1, fun a m => ?_, fun n => ?_⟩
    · rcases List.mem_append.mp m with m | m
      · exact .inr (List.mem_append_left _ m)
      · rcases q2 a m with m | m
        · exact .inl m
        · exact .inr (List.mem_append_right _ m)
    · obtain ⟨n1, n2, n3⟩ := List.nodup_append.mp n
      obtain ⟨n4, n5, n6⟩ := List.nodup_append.mp n2
      refine List.nodup_append.mpr ⟨n4, q3 (List.nodup_append.mpr ⟨n1, n5, fun a ha b hb => n3 a ha b (List.mem_append_right _ hb)⟩), fun a ha b hb e => ?_⟩
      rcases q2 b hb with m | m
      · exact n3 b m a (List.mem_append_left _ ha) e.symm
      · exact n6 a ha b m e
end
mutual
def toD : Cell → Option D
  | .im d => some d
  | .ow cs => (toDs cs).map .list
  | _ => none
def toDs : List Cell → Option (List D)
  | [] => some []
  | c :: cs => match toD c, toDs cs with
    | some d, some ds => some (d :: ds)
    | _, _ => none
end
mutual
/-- a cell, frozen -/
def frz : Cell → Cell
  | .ow cs => match toDs cs with
    | some ds => .im (.list ds)
    | none => .un
  | .dk ks cs => .fk ks (frzs cs)
  | .dt ks cs => .ft ks (frzs cs)
  | .im d => .im d
  | .fk ks cs => .fk ks cs
  | .ft ks cs => .ft ks cs
  | .deck => .deck
  | .fn L ds => .fn L ds
  | .un => .un
@[simp] def frzs : List Cell → List Cell
  | [] => []
  | c :: cs => frz c :: frzs cs
end
theorem toDs_im : ∀ ds : List D, toDs (ds.map .im) = some ds
  | [] => by simp [toDs]
  | d :: ds => by simp [toDs, toD, toDs_im ds]
@[simp] theorem frz_ow_im (ds : List D) : frz (.ow (ds.map .im)) = .im (.list ds) := by simp [frz, toDs_im]
/-- the frozen part with what stands in H at fp -/
def addF (F H : Hp) (fp : List Addr) : Hp := fun a => if a ∈ fp then H a else F a
section
variable {K : PySem.W.Frag} {da : Option Addr} {F H : Hp}
theorem addF_in {fp : List Addr} {a : Addr} (h : a ∈ fp) : addF F H fp a = H a := by unfold addF; rw [if_pos h]
theorem addF_out {fp : List Addr} {a : Addr} (h : a ∉ fp) : addF F H fp a = F a := by unfold addF; rw [if_neg h]
theorem addF_same {fp : List Addr} (h : ∀ a ∈ fp, F a = none) : Same F (addF F H fp) := fun a o e => by
  by_cases m : a ∈ fp
  · rw [h a m] at e; cases e
  · rw [addF_out m]; exact e
theorem addF_sub {fp : List Addr} (s : Same F H) : Same (addF F H fp) H := fun a o e => by
  by_cases m : a ∈ fp
  · rwa [addF_in m] at e
  · rw [addF_out m] at e; exact s a o e
theorem addF_mono {fp fq : List Addr} (s : Same F H) (h : ∀ a ∈ fp, a ∈ fq) : Same (addF F H fp) (addF F H fq) := fun a o e => by
  by_cases m : a ∈ fq
  · rw [addF_in m]; exact addF_sub s a o e
  · rw [addF_out m]; rwa [addF_out (fun z => m (h a z))] at e
mutual
theorem CR.dp (s : Same F H) : ∀ {v : V} {c : Cell} {fp : List Addr} {d : D}, CR K da F H v c fp → toD c = some d → Dp K (addF F H fp) v d
  | _, _, _, _, .un, e => by simp [toD] at e
  | _, _, _, _, .im h, e => by
    simp [toD] at e; subst e
    have z : addF F H [] = F := by funext a; simp [addF]
    rw [z]; exact h
  | _, _, _, _, .ow (fp := fp) h hs, e => by
    simp only [toD, Option.map_eq_some_iff] at e
    obtain ⟨ds, e1, e2⟩ := e
    subst e2
    refine .lst (.inl (.inl ?_)) (DpAll.mono (addF_mono s fun a m => List.mem_cons_of_mem _ m) (CRs.dps s hs e1))
    rw [addF_in List.mem_cons_self]; exact h
  | _, _, _, _, .dk _ _ _, e => by simp [toD] at e
  | _, _, _, _, .dt _ _ _, e => by simp [toD] at e
  | _, _, _, _, .fk _ _ _, e => by simp [toD] at e
  | _, _, _, _, .ft _ _ _, e => by simp [toD] at e
  | _, _, _, _, .deck _, e => by simp [toD] at e
  | _, _, _, _, .fn _ _ _, e => by simp [toD] at e
theorem CRs.dps (s : Same F H) : ∀ {vs : List V} {cs : List Cell} {fp : List Addr} {ds : List D}, CRs K da F H vs cs fp → toDs cs = some ds → DpAll K (addF F H fp) vs ds
  | _, _, _, _, .nil, e => by simp [toDs] at e; subst e; exact .nil
  | _, _, _, _, .cons (c := c) (cs := cs) h hs, e => by
    unfold toDs at e
    split at e
    · rename_i d ds e1 e2
      injection e with e; subst e
      exact .cons (Dp.mono (addF_mono s fun a m => List.mem_append_left _ m) (CR.dp s h e1)) (DpAll.mono (addF_mono s fun a m => List.mem_append_right _ m) (CRs.dps s hs e2))
    · cases e
end
mutual
theorem CR.fz (s : Same F H) : ∀ {v : V} {c : Cell} {fp : List Addr}, CR K da F H v c fp → CR K da (addF F H fp) H v (frz c) []
  | _, _, _, .un => by unfold frz; exact .un
  | _, _, _, .im h => by
    have z : addF F H [] = F := by funext a; simp [addF]
    rw [z]; unfold frz; exact .im h
  | _, _, _, .ow (cs := cs) h hs => by
    unfold frz
    split
    · rename_i ds e
      exact .im (CR.dp s (.ow h hs) (by simp [toD, e]))
    · exact .un
  | _, _, _, .dk h l hs => by
    unfold frz
    exact .fk (by rw [addF_in List.mem_cons_self]; exact h) l (CRs.mono (addF_mono s fun a m => List.mem_cons_of_mem _ m) (CRs.fzs s hs) fun _ z => nomatch z)
  | _, _, _, .dt h l hs => by
    unfold frz
    exact .ft (by rw [addF_in List.mem_cons_self]; exact h) l (CRs.mono (addF_mono s fun a m => List.mem_cons_of_mem _ m) (CRs.fzs s hs) fun _ z => nomatch z)
  | _, _, _, .fk h l hs => by
    have z : addF F H [] = F := by funext a; simp [addF]
    rw [z]; unfold frz; exact .fk h l hs
  | _, _, _, .ft h l hs => by
    have z : addF F H [] = F := by funext a; simp [addF]
    rw [z]; unfold frz; exact .ft h l hs
  | _, _, _, .deck h => by unfold frz; exact .deck h
  | _, _, _, .fn h1 h2 h3 => by
    have z : addF F H [] = F := by funext a; simp [addF]
    rw [z]; unfold frz; exact .fn h1 h2 h3
theorem CRs.fzs (s : Same F H) : ∀ {vs : List V} {cs : List Cell} {fp : List Addr}, CRs K da F H vs cs fp → CRs K da (addF F H fp) H vs (frzs cs) []
  | _, _, _, .nil => by unfold frzs; exact .nil
  | _, _, _, .cons h hs => by
    unfold frzs
    exact CRs.cons (f := []) (CR.mono (addF_mono s fun a m => List.mem_append_left _ m) (CR.fz s h) fun _ z => nomatch z) (CRs.mono (addF_mono s fun a m => List.mem_append_right _ m) (CRs.fzs s hs) fun _ z => nomatch z)
end
end
end DL
set_option maxHeartbeats 1000000
namespace DL
open PySem PySem.Spec PyProof.Rows L2
/-- what is one for all defs: the deck's keys, the tables of code objects with the names that they tell -/
structure Dn where
  k : Str × Str × Str
  tb : List (Addr × Str)
/-- a def's base: the heap and the frozen part at its entry, the deck (its dict, its list of cells) -/
structure Bs where
  G : Hp
  F0 : Hp
  da : Option (Addr × Addr)
  dn : Dn
def Bs.deck (B : Bs) : List Addr := match B.da with
  | none => []
  | some (a, c) => [a, c]
/-- what is shared and may change -/
def Bs.ms (B : Bs) : List Addr := B.dn.tb.map (·.1) ++ B.deck
abbrev Bs.dd (B : Bs) : Option Addr := B.da.map (·.1)
def DeckP (B : Bs) (H : Hp) : Prop := match B.da with
  | none => True
  | some (a, c) => a ≠ c ∧ ∃ (ns : List Int) (m t : Int), H a = some (.dK [(.inr B.dn.k.1, .ref c), (.inr B.dn.k.2.1, .int m), (.inr B.dn.k.2.2, .int t)]) ∧ H c = some (.lst (ns.map V.int)) ∧ ns.length ≤ 64
def DeckOk (B : Bs) (H : Hp) : Prop := LamX.Tabs B.dn.tb H ∧ DeckP B H
theorem DeckP.there {B : Bs} {H : Hp} (h : DeckP B H) : ∀ a ∈ B.deck, ∃ o, H a = some o := by
  unfold DeckP at h
  unfold Bs.deck
  intro a m
  cases e : B.da with
  | none => rw [e] at m; cases m
  | some p =>
    obtain ⟨x, y⟩ := p
    rw [e] at h m
    obtain ⟨_, ns, mm, t, h1, h2, _⟩ := h
    simp only [List.mem_cons, List.not_mem_nil, or_false] at m
    rcases m with rfl | rfl
    · exact ⟨_, h1⟩
    · exact ⟨_, h2⟩
theorem DeckOk.there {B : Bs} {H : Hp} (h : DeckOk B H) : ∀ a ∈ B.ms, ∃ o, H a = some o := by
  intro a m
  rcases List.mem_append.mp m with m | m
  · obtain ⟨p, hp, e⟩ := List.mem_map.mp m
    subst e
    obtain ⟨ps, e, _⟩ := h.1 p hp
    exact ⟨_, e⟩
  · exact h.2.there a m
theorem DeckP.keep {B : Bs} {H H' : Hp} (h : DeckP B H) (k : ∀ a ∈ B.deck, H' a = H a) : DeckP B H' := by
  unfold DeckP at h ⊢
  unfold Bs.deck at k
  cases e : B.da with
  | none => trivial
  | some p =>
    obtain ⟨x, y⟩ := p
    rw [e] at h k
    obtain ⟨ne, ns, mm, t, h1, h2, h3⟩ := h
    exact ⟨ne, ns, mm, t, (k x (by simp)).trans h1, (k y (by simp)).trans h2, h3⟩
theorem DeckOk.keep {B : Bs} {H H' : Hp} (h : DeckOk B H) (k : ∀ a ∈ B.ms, H' a = H a) (kc : ∀ a q, H a = some (LamX.CodeO a q) → H' a = some (LamX.CodeO a q)) : DeckOk B H' := by
  refine ⟨fun p hp => ?_, h.2.keep fun a m => k a (List.mem_append_right _ m)⟩
  obtain ⟨ps, h1, h2, h3⟩ := h.1 p hp
  refine ⟨ps, (k _ (List.mem_append_left _ (List.mem_map_of_mem hp))).trans h1, h2, fun pos cv hc => ?_⟩
  obtain ⟨c, e1, e2⟩ := h3 pos cv hc
  exact ⟨c, e1, kc _ _ e2⟩
theorem DeckOk.noext {B : Bs} {H : Hp} (h : DeckOk B H) : ∀ a ∈ B.ms, ∀ φ, H a ≠ some (.ext φ) := by
  intro a m φ z
  rcases List.mem_append.mp m with m | m
  · obtain ⟨p, hp, e⟩ := List.mem_map.mp m
    subst e
    obtain ⟨ps, e, _⟩ := h.1 p hp
    rw [e] at z; cases z
  · have d := h.2
    unfold DeckP at d
    unfold Bs.deck at m
    cases e : B.da with
    | none => rw [e] at m; cases m
    | some p =>
      obtain ⟨x, y⟩ := p
      rw [e] at d m
      obtain ⟨_, ns, mm, t, h1, h2, _⟩ := d
      simp only [List.mem_cons, List.not_mem_nil, or_false] at m
      rcases m with rfl | rfl
      · rw [h1] at z; cases z
      · rw [h2] at z; cases z
inductive SlotsR (K : PySem.W.Frag) (da : Option Addr) (F H : Hp) : List (Option V) → List Cell → List Addr → Prop
  | nil : SlotsR K da F H [] [] []
  | no {o : Option V} {σ : List (Option V)} {γ : List Cell} {fp : List Addr} : SlotsR K da F H σ γ fp → SlotsR K da F H (o :: σ) (.un :: γ) fp
  | so {v : V} {σ : List (Option V)} {c : Cell} {γ : List Cell} {f fp : List Addr} : CR K da F H v c f → SlotsR K da F H σ γ fp → SlotsR K da F H (some v :: σ) (c :: γ) (f ++ fp)
section
variable {K : PySem.W.Frag} {da : Option Addr} {F H F' H' : Hp}
theorem SlotsR.mono (e : Same F F') : ∀ {σ : List (Option V)} {γ : List Cell} {fp : List Addr}, SlotsR K da F H σ γ fp → (∀ a ∈ fp, ∀ o, H a = some o → H' a = some o) → SlotsR K da F' H' σ γ fp
  | _, _, _, .nil, _ => .nil
  | _, _, _, .no hs, k => .no (SlotsR.mono e hs k)
  | _, _, _, .so h hs, k => .so (h.mono e fun a m => k a (List.mem_append_left _ m)) (SlotsR.mono e hs fun a m => k a (List.mem_append_right _ m))
theorem SlotsR.there : ∀ {σ : List (Option V)} {γ : List Cell} {fp : List Addr}, SlotsR K da F H σ γ fp → ∀ a ∈ fp, ∃ o, H a = some o
  | _, _, _, .nil, _, m => nomatch m
  | _, _, _, .no hs, a, m => SlotsR.there hs a m
  | _, _, _, .so h hs, a, m => by
    rcases List.mem_append.mp m with m | m
    · exact h.there a m
    · exact SlotsR.there hs a m
theorem SlotsR.length : ∀ {σ : List (Option V)} {γ : List Cell} {fp : List Addr}, SlotsR K da F H σ γ fp → σ.length = γ.length
  | _, _, _, .nil => rfl
  | _, _, _, .no hs => by rw [List.length_cons, List.length_cons, SlotsR.length hs]
  | _, _, _, .so _ hs => by rw [List.length_cons, List.length_cons, SlotsR.length hs]
theorem SlotsR.get : ∀ {σ : List (Option V)} {γ : List Cell} {fp : List Addr} {i : Nat} {c : Cell}, SlotsR K da F H σ γ fp → γ[i]? = some c → c ≠ .un → ∃ v f, σ[i]? = some (some v) ∧ CR K da F H v c f ∧ (∀ a ∈ f, a ∈ fp) ∧ (fp.Nodup → f.Nodup)
  | _, _, _, _, _, .nil, e, _ => by simp at e
  | _, _, _, 0, _, .no _, e, n => by simp at e; exact absurd e.symm n
  | _, _, _, 0, _, .so h _, e, _ => by
    simp at e; subst e
    exact ⟨_, _, rfl, h, fun a m => List.mem_append_left _ m, fun n => (List.nodup_append.mp n).1⟩
  | _, _, _, i + 1, _, .no hs, e, n => by
    obtain ⟨v, f, h1, h2, h3, h4⟩ := SlotsR.get (i := i) hs (by simpa using e) n
    exact ⟨v, f, by simpa using h1, h2, h3, h4⟩
  | _, _, _, i + 1, _, .so _ hs, e, n => by
    obtain ⟨v, f, h1, h2, h3, h4⟩ := SlotsR.get (i := i) hs (by simpa using e) n
    exact ⟨v, f, by simpa using h1, h2, fun a m => List.mem_append_right _ (h3 a m), fun n => h4 (List.nodup_append.mp n).2.1⟩
/-- a slot forgotten -/
theorem SlotsR.drop : ∀ {σ : List (Option V)} {γ : List Cell} {fp : List Addr} (i : Nat) (o : Option V), SlotsR K da F H σ γ fp → ∃ fp', SlotsR K da F H (σ.set i o) (γ.set i .un) fp' ∧ (∀ a ∈ fp', a ∈ fp) ∧ (fp.Nodup → fp'.Nodup)
  | _, _, _, _, _, .nil => ⟨[], .nil, fun _ z => (nomatch z), fun _ => List.nodup_nil⟩
  | _, _, _, 0, _, .no hs => ⟨_, .no hs, fun _ z => z, fun n => n⟩
  | _, _, _, 0, _, .so _ hs => ⟨_, .no hs, fun _ z => List.mem_append_right _ z, fun n => (List.nodup_append.mp n).2.1⟩
  | _, _, _, i + 1, o, .no hs => by
    obtain ⟨fp', q1, q2, q3⟩ := SlotsR.drop i o hs
    exact ⟨fp', .no q1, q2, q3⟩
  | _, _, _, i + 1, o, .so (f := f) h hs => by
    obtain ⟨fp', q1, q2, q3⟩ := SlotsR.drop i o hs
    refine ⟨f ++ fp', .so h q1, fun a m => ?_, fun n => ?_⟩
    · rcases List.mem_append.mp m with m | m
      · exact List.mem_append_left _ m
      · exact List.mem_append_right _ (q2 a m)
    · obtain ⟨n1, n2, n3⟩ := List.nodup_append.mp n
      exact List.nodup_append.mpr ⟨n1, q3 n2, fun a ha b hb => n3 a ha b (q2 b hb)⟩
/-- a slot stored -/
theorem SlotsR.set {v : V} {c : Cell} {f : List Addr} (h : CR K da F H v c f) : ∀ {σ : List (Option V)} {γ : List Cell} {fp : List Addr} (i : Nat), SlotsR K da F H σ γ fp → ∃ fp', SlotsR K da F H (σ.set i (some v)) (γ.set i c) fp' ∧ (∀ a ∈ fp', a ∈ f ∨ a ∈ fp) ∧ ((f ++ fp).Nodup → fp'.Nodup)
  | _, _, _, _, .nil => ⟨[], .nil, fun _ z => (nomatch z), fun _ => List.nodup_nil⟩
  | _, _, _, 0, .no (fp := fp) hs => ⟨f ++ fp, .so h hs, fun a m => List.mem_append.mp m, fun n => n⟩
  | _, _, _, 0, .so (f := f0) (fp := fp0) _ hs => ⟨f ++ fp0, .so h hs, fun a m => by
      rcases List.mem_append.mp m with m | m
      · exact .inl m
      · exact .inr (List.mem_append_right _ m), fun n => by
      obtain ⟨n1, n2, n3⟩ := List.nodup_append.mp n
      exact List.nodup_append.mpr ⟨n1, (List.nodup_append.mp n2).2.1, fun a ha b hb => n3 a ha b (List.mem_append_right _ hb)⟩⟩
  | _, _, _, i + 1, .no hs => by
    obtain ⟨fp', q1, q2, q3⟩ := SlotsR.set h i hs
    exact ⟨fp', .no q1, q2, q3⟩
  | _, _, _, i + 1, .so (f := f0) (fp := fp0) h0 hs => by
    obtain ⟨fp', q1, q2, q3⟩ := SlotsR.set h i hs
    refine ⟨f0 ++ fp', .so h0 q1, fun a m => ?_, fun n => ?_⟩
    · rcases List.mem_append.mp m with m | m
      · exact .inr (List.mem_append_left _ m)
      · rcases q2 a m with m | m
        · exact .inl m
        · exact .inr (List.mem_append_right _ m)
    · obtain ⟨n1, n2, n3⟩ := List.nodup_append.mp n
      obtain ⟨n4, n5, n6⟩ := List.nodup_append.mp n2
      refine List.nodup_append.mpr ⟨n4, q3 (List.nodup_append.mpr ⟨n1, n5, fun a ha b hb => n3 a ha b (List.mem_append_right _ hb)⟩), fun a ha b hb e => ?_⟩
      rcases q2 b hb with m | m
      · exact n3 b m a (List.mem_append_left _ ha) e.symm
      · exact n6 a ha b m e
/-- the objects of one slot change, all else stands: f' is within f or new -/
theorem SlotsR.change : ∀ {σ : List (Option V)} {γ : List Cell} {fp : List Addr} {i : Nat} {c : Cell}, SlotsR K da F H σ γ fp → fp.Nodup → γ[i]? = some c → c ≠ .un →
    ∃ v f, σ[i]? = some (some v) ∧ CR K da F H v c f ∧ f.Nodup ∧ (∀ a ∈ f, a ∈ fp) ∧
      ∀ (F' H' : Hp) (c' : Cell) (f' : List Addr), Same F F' → (∀ a, a ∈ fp → a ∉ f → H' a = H a) → CR K da F' H' v c' f' → f'.Nodup → (∀ a ∈ f', a ∈ f ∨ a ∉ fp) → ∃ fp', SlotsR K da F' H' σ (γ.set i c') fp' ∧ fp'.Nodup ∧ ∀ a ∈ fp', a ∈ f' ∨ (a ∈ fp ∧ a ∉ f)
  | _, _, _, _, _, .nil, _, e, _ => by simp at e
  | _, _, _, 0, _, .no _, _, e, n => by simp at e; exact absurd e.symm n
  | _, _, _, 0, _, .so (f := f) (fp := fp) h hs, nd, e, _ => by
    simp at e; subst e
    obtain ⟨n1, n2, n3⟩ := List.nodup_append.mp nd
    refine ⟨_, f, rfl, h, n1, fun a m => List.mem_append_left _ m, fun F' H' c' f' sF k h' nd' out => ?_⟩
    refine ⟨f' ++ fp, .so h' (hs.mono sF fun a m o eo => by rw [k a (List.mem_append_right _ m) fun z => n3 a z a m rfl]; exact eo), ?_, fun a m => ?_⟩
    · refine List.nodup_append.mpr ⟨nd', n2, fun a ha b hb e => ?_⟩
      subst e
      rcases out a ha with z | z
      · exact n3 a z a hb rfl
      · exact z (List.mem_append_right _ hb)
    · rcases List.mem_append.mp m with m | m
      · exact .inl m
      · exact .inr ⟨List.mem_append_right _ m, fun z => n3 a z a m rfl⟩
  | _, _, _, i + 1, _, .no hs, nd, e, n => by
    obtain ⟨v, f, h1, h2, h3, h4, h5⟩ := SlotsR.change (i := i) hs nd (by simpa using e) n
    refine ⟨v, f, by simpa using h1, h2, h3, h4, fun F' H' c' f' sF k h' nd' out => ?_⟩
    obtain ⟨fp', q1, q2, q3⟩ := h5 F' H' c' f' sF k h' nd' out
    exact ⟨fp', .no q1, q2, q3⟩
  | _, _, _, i + 1, _, .so (f := f0) (fp := fp0) h0 hs, nd, e, n => by
    obtain ⟨n1, n2, n3⟩ := List.nodup_append.mp nd
    obtain ⟨v, f, h1, h2, h3, h4, h5⟩ := SlotsR.change (i := i) hs n2 (by simpa using e) n
    refine ⟨v, f, by simpa using h1, h2, h3, fun a m => List.mem_append_right _ (h4 a m), fun F' H' c' f' sF k h' nd' out => ?_⟩
    obtain ⟨fp', q1, q2, q3⟩ := h5 F' H' c' f' sF (fun a m nf => k a (List.mem_append_right _ m) nf) h' nd' fun a m => by
      rcases out a m with z | z
      · exact .inl z
      · exact .inr fun y => z (List.mem_append_right _ y)
    refine ⟨f0 ++ fp', .so (h0.mono sF fun a m o eo => by rw [k a (List.mem_append_left _ m) fun z => n3 a m a (h4 a z) rfl]; exact eo) q1, ?_, fun a m => ?_⟩
    · refine List.nodup_append.mpr ⟨n1, q2, fun a ha b hb e => ?_⟩
      subst e
      rcases q3 a hb with z | z
      · rcases out a z with y | y
        · exact n3 a ha a (h4 a y) rfl
        · exact y (List.mem_append_left _ ha)
      · exact n3 a ha a z.1 rfl
    · rcases List.mem_append.mp m with m | m
      · exact .inr ⟨List.mem_append_left _ m, fun z => n3 a m a (h4 a z) rfl⟩
      · rcases q3 a m with z | z
        · exact .inl z
        · exact .inr ⟨List.mem_append_right _ z.1, z.2⟩
theorem SlotsR.ofCRs : ∀ {vs : List V} {cs : List Cell} {fp : List Addr} (n : Nat), CRs K da F H vs cs fp → SlotsR K da F H (vs.map some ++ List.replicate n none) (cs ++ List.replicate n .un) fp
  | _, _, _, 0, .nil => .nil
  | _, _, _, n + 1, .nil => .no (SlotsR.ofCRs (vs := []) (cs := []) n .nil)
  | _, _, _, n, .cons h hs => .so h (SlotsR.ofCRs n hs)
end
@[simp] def wipeC (γ : List Cell) : List Nat → List Cell
  | [] => γ
  | v :: vs => (wipeC γ vs).set v .un
theorem SlotsR.wipe {K : PySem.W.Frag} {da : Option Addr} {F H : Hp} {σ : L2.St} {γ : List Cell} {fp : List Addr} (h : SlotsR K da F H σ γ fp) : ∀ vs : List Nat, ∃ fp', SlotsR K da F H (wipe σ vs) (wipeC γ vs) fp' ∧ (∀ a ∈ fp', a ∈ fp) ∧ (fp.Nodup → fp'.Nodup)
  | [] => ⟨fp, h, fun _ z => z, fun n => n⟩
  | v :: vs => by
    obtain ⟨fp', q1, q2, q3⟩ := SlotsR.wipe h vs
    obtain ⟨fq, r1, r2, r3⟩ := q1.drop v none
    exact ⟨fq, r1, fun a m => q2 a (r2 a m), fun n => r3 (q3 n)⟩
structure Go (B : Bs) (F H F' H' : Hp) : Prop where
  ff : Same F F'
  hh : ∀ a o, a ∉ B.ms → H a = some o → H' a = some o
  nw : ∀ a, F a = none → H a ≠ none → F' a = none
  sub : Same F' H'
  dk : DeckOk B H'
theorem Go.refl {B : Bs} {F H : Hp} (s : Same F H) (d : DeckOk B H) : Go B F H F H := ⟨Same.refl F, fun _ _ _ h => h, fun _ h _ => h, s, d⟩
theorem Go.there {B : Bs} {F H F' H' : Hp} (g : Go B F H F' H') {a : Addr} (h : H a ≠ none) : H' a ≠ none := by
  by_cases m : a ∈ B.ms
  · obtain ⟨o, e⟩ := g.dk.there a m
    rw [e]; exact fun z => by cases z
  · cases e : H a with
    | none => exact absurd e h
    | some o => rw [g.hh a o m e]; exact fun z => by cases z
theorem Go.none {B : Bs} {F H F' H' : Hp} (g : Go B F H F' H') {a : Addr} (h : H' a = none) : H a = none := by
  cases e : H a with
  | none => rfl
  | some o => exact absurd h (g.there (by rw [e]; exact fun z => by cases z))
theorem Go.trans {B : Bs} {F H F1 H1 F2 H2 : Hp} (a : Go B F H F1 H1) (b : Go B F1 H1 F2 H2) : Go B F H F2 H2 :=
  ⟨a.ff.trans b.ff, fun x o m h => b.hh x o m (a.hh x o m h), fun x h n => b.nw x (a.nw x h n) (a.there n), b.sub, b.dk⟩
theorem same_upd {F H : Hp} {p : Addr} {o : HO} (s : Same F H) (h : H p = none) : Same F (upd H p o) := fun a x e => by
  rw [upd_ne (ne_of_none (s a x e) h)]; exact s a x e
theorem DeckOk.upd {B : Bs} {H : Hp} {p : Addr} {o : HO} (d : DeckOk B H) (h : H p = none) : DeckOk B (upd H p o) := d.keep (fun a m => by
  obtain ⟨x, e⟩ := d.there a m
  exact upd_ne (ne_of_none e h)) fun a _ e => by rw [upd_ne (ne_of_none e h)]; exact e
/-- a new object, owned -/
theorem Go.new {B : Bs} {F H : Hp} {p : Addr} {o : HO} (s : Same F H) (d : DeckOk B H) (h : H p = Option.none) : Go B F H F (L2.upd H p o) :=
  ⟨Same.refl F, fun a x _ e => by rw [upd_ne (ne_of_none e h)]; exact e, fun _ e _ => e, same_upd s h, d.upd h⟩
/-- a new object, frozen -/
theorem Go.newF {B : Bs} {F H : Hp} {p : Addr} {o : HO} (s : Same F H) (d : DeckOk B H) (h : H p = Option.none) : Go B F H (L2.upd F p o) (L2.upd H p o) := by
  have hf : F p = Option.none := by
    cases e : F p with
    | none => rfl
    | some x => rw [s p x e] at h; cases h
  refine ⟨fun a x e => by rw [upd_ne (ne_of_none e hf)]; exact e, fun a x _ e => by rw [upd_ne (ne_of_none e h)]; exact e, fun a e n => ?_, fun a x e => ?_, d.upd h⟩
  · by_cases z : a = p
    · subst z; exact absurd h n
    · rw [upd_ne z]; exact e
  · by_cases z : a = p
    · subst z; rw [upd_same] at e ⊢; exact e
    · rw [upd_ne z] at e ⊢; exact s a x e
/-- what is fresh, frozen -/
theorem Go.addF {B : Bs} {F H F1 H1 : Hp} {fp : List Addr} (g : Go B F H F1 H1) (h : ∀ a ∈ fp, H a = Option.none ∧ F1 a = Option.none) : Go B F H (addF F1 H1 fp) H1 :=
  ⟨g.ff.trans (addF_same fun a m => (h a m).2), g.hh, fun a e n => by
    rw [addF_out fun m => n (h a m).1]; exact g.nw a e n, addF_sub g.sub, g.dk⟩
theorem not_ms {B : Bs} {H : Hp} (d : DeckOk B H) {a : Addr} (h : H a = none) : a ∉ B.ms := fun m => by
  obtain ⟨o, e⟩ := d.there a m
  rw [e] at h; cases h
structure Rel (K : PySem.W.Frag) (B : Bs) (γ : List Cell) (F H : Hp) (σ : L2.St) : Prop where
  go : Go B B.F0 B.G F H
  mf : ∀ a ∈ B.ms, F a = none
  mg : ∀ a ∈ B.ms, B.G a ≠ none
  sl : ∃ fp, SlotsR K B.dd F H σ γ fp ∧ fp.Nodup ∧ ∀ a ∈ fp, F a = none ∧ B.G a = none
section
variable {K : PySem.W.Frag} {B : Bs} {γ : List Cell} {F H F' H' : Hp} {σ : L2.St}
theorem Rel.sub (R : Rel K B γ F H σ) : Same F H := R.go.sub
theorem Rel.dk (R : Rel K B γ F H σ) : DeckOk B H := R.go.dk
theorem Rel.refl (R : Rel K B γ F H σ) : Go B F H F H := Go.refl R.sub R.dk
theorem Rel.fpms (R : Rel K B γ F H σ) {a : Addr} (h : B.G a = none) : a ∉ B.ms := fun m => R.mg a m h
theorem Rel.step (R : Rel K B γ F H σ) (g : Go B F H F' H') : Rel K B γ F' H' σ := by
  obtain ⟨fp, h1, h2, h3⟩ := R.sl
  refine ⟨R.go.trans g, fun a m => g.nw a (R.mf a m) ?_, R.mg, fp, h1.mono g.ff fun a m o e => g.hh a o (R.fpms (h3 a m).2) e, h2, fun a m => ⟨g.nw a (h3 a m).1 ?_, (h3 a m).2⟩⟩
  · obtain ⟨o, e⟩ := R.dk.there a m
    rw [e]; exact fun z => by cases z
  · obtain ⟨o, e⟩ := h1.there a m
    rw [e]; exact fun z => by cases z
theorem Rel.len (R : Rel K B γ F H σ) : σ.length = γ.length := let ⟨_, h, _⟩ := R.sl; h.length
theorem Rel.get (R : Rel K B γ F H σ) {i : Nat} {c : Cell} (e : γ[i]? = some c) (n : c ≠ .un) : ∃ v f, σ[i]? = some (some v) ∧ CR K B.dd F H v c f ∧ f.Nodup ∧ ∀ a ∈ f, F a = none ∧ B.G a = none ∧ a ∉ B.ms := by
  obtain ⟨fp, h1, h2, h3⟩ := R.sl
  obtain ⟨v, f, q1, q2, q3, q4⟩ := h1.get e n
  exact ⟨v, f, q1, q2, q4 h2, fun a m => ⟨(h3 a (q3 a m)).1, (h3 a (q3 a m)).2, R.fpms (h3 a (q3 a m)).2⟩⟩
theorem Rel.wipe (R : Rel K B γ F H σ) (vs : List Nat) : Rel K B (wipeC γ vs) F H (wipe σ vs) := by
  obtain ⟨fp, h1, h2, h3⟩ := R.sl
  obtain ⟨fp', q1, q2, q3⟩ := h1.wipe vs
  exact ⟨R.go, R.mf, R.mg, fp', q1, q3 h2, fun a m => h3 a (q2 a m)⟩
/-- a slot stored: what was fresh ahead of the evaluation -/
theorem Rel.set (R : Rel K B γ F H σ) (g : Go B F H F' H') {v : V} {c : Cell} {f : List Addr} (h : CR K B.dd F' H' v c f) (nd : f.Nodup) (fr : ∀ a ∈ f, H a = none ∧ F' a = none) (i : Nat) : Rel K B (γ.set i c) F' H' (σ.set i (some v)) := by
  have R' := R.step g
  obtain ⟨fp, h1, h2, h3⟩ := R.sl
  have h1' : SlotsR K B.dd F' H' σ γ fp := h1.mono g.ff fun a m o e => g.hh a o (R.fpms (h3 a m).2) e
  obtain ⟨fp', q1, q2, q3⟩ := h1'.set h i
  refine ⟨R'.go, R'.mf, R'.mg, fp', q1, q3 (List.nodup_append.mpr ⟨nd, h2, fun a ha b hb e => ?_⟩), fun a m => ?_⟩
  · subst e
    obtain ⟨o, z⟩ := h1.there a hb
    rw [(fr a ha).1] at z; cases z
  · rcases q2 a m with m | m
    · exact ⟨(fr a m).2, R.go.none (fr a m).1⟩
    · refine ⟨g.nw a (h3 a m).1 ?_, (h3 a m).2⟩
      obtain ⟨o, e⟩ := h1.there a m
      rw [e]; exact fun z => by cases z
theorem Rel.setD (R : Rel K B γ F H σ) {v : V} {d : D} (h : Dp K F v d) (i : Nat) : Rel K B (γ.set i (.im d)) F H (σ.set i (some v)) :=
  R.set R.refl (.im h) List.nodup_nil (fun _ z => (nomatch z)) i
/-- a slot frozen -/
theorem Rel.fz (R : Rel K B γ F H σ) (i : Nat) : ∃ F', Same F F' ∧ Rel K B (γ.set i (frz (γ.getD i .un))) F' H σ := by
  cases e : γ[i]? with
  | none =>
    refine ⟨F, Same.refl F, ?_⟩
    rw [List.set_eq_of_length_le (by simpa using e)]
    exact R
  | some c =>
    have hg : γ.getD i .un = c := by rw [List.getD_eq_getElem?_getD, e]; rfl
    rw [hg]
    by_cases hn : c = .un
    · subst hn
      refine ⟨F, Same.refl F, ?_⟩
      have : frz .un = .un := by simp [frz]
      rw [this]
      have z : γ.set i .un = γ := by
        apply List.ext_getElem?
        intro j
        by_cases hj : i = j
        · subst hj
          obtain ⟨hlt, _⟩ := List.getElem?_eq_some_iff.mp e
          rw [List.getElem?_set_self hlt, e]
        · rw [List.getElem?_set_ne hj]
      rw [z]
      exact R
    · obtain ⟨fp, h1, h2, h3⟩ := R.sl
      obtain ⟨v, f, q1, q2, q3, q4, q5⟩ := h1.change h2 e hn
      have hf : ∀ a ∈ f, F a = none := fun a m => (h3 a (q4 a m)).1
      have sm : Same F (addF F H f) := addF_same hf
      obtain ⟨fp', s1, s2, s3⟩ := q5 (addF F H f) H (frz c) [] sm (fun _ _ _ => rfl) (CR.fz R.sub q2) List.nodup_nil (fun _ z => (nomatch z))
      refine ⟨addF F H f, sm, ⟨R.go.ff.trans sm, R.go.hh, fun a e1 n1 => ?_, addF_sub R.sub, R.dk⟩, fun a m => ?_, R.mg, fp', s1, s2, fun a m => ?_⟩
      · rw [addF_out fun m => n1 (h3 a (q4 a m)).2]; exact R.go.nw a e1 n1
      · rw [addF_out fun m' => R.mg a m (h3 a (q4 a m')).2]; exact R.mf a m
      · rcases s3 a m with z | ⟨z, z2⟩
        · exact nomatch z
        · exact ⟨by rw [addF_out z2]; exact (h3 a z).1, (h3 a z).2⟩
end
end DL
set_option maxHeartbeats 1000000
namespace DL
open PySem PySem.Spec PyProof.Rows L2
abbrev XE := List Cell → (Cell → Prop) → Prop
abbrev XT := List Cell → (Bool → Prop) → Prop
abbrev XA := List Cell → (List Cell → Prop) → Prop
/-- no list and no tuple is beyond the line -/
def SzH (K : PySem.W.Frag) (H : Hp) : Prop := ∀ a xs, (SqL K H a xs ∨ SqT K H a xs) → xs.length ≤ sizeLine
theorem inv_sz {X : Cx} {pins : List (Addr × Obj)} {σ : L2.St} {H : Hp} {s : Shared} (I : Inv X pins σ H s) : SzH X.K H := fun a xs h => by
  rcases h with h | h
  · exact (I.list h).choose_spec.2.2
  · exact (I.tuple h).choose_spec.2.2
theorem pe_imp {X : Cx} {e : Expr} {t t' : TE} (h : PE X e t) (k : ∀ σ H Q, t' σ H Q → SzH X.K H → t σ H (fun v H' => SzH X.K H' → Q v H')) : PE X e t' :=
  ⟨fun pins s σ H Q I h' => thn (h.run pins s σ H _ I (k _ _ _ h' (inv_sz I))) fun u s1 ⟨v, H', I', r, q⟩ => ⟨v, H', I', r, q (inv_sz I')⟩⟩
theorem pt_imp {X : Cx} {e : Expr} {t t' : TT} (h : PT X e t) (k : ∀ σ H Q, t' σ H Q → t σ H Q) : PT X e t' :=
  ⟨fun pins s σ H Q I h' => h.run pins s σ H _ I (k _ _ _ h')⟩
theorem pw_imp {X : Cx} {e : Expr} {t t' : TT} (h : PW X e t) (k : ∀ σ H Q, t' σ H Q → t σ H Q) : PW X e t' :=
  ⟨fun wh pins s σ H Q I h' => h.run wh pins s σ H _ I (k _ _ _ h')⟩
theorem pa_imp {X : Cx} {es : List Expr} {t t' : TA} (h : PA X es t) (k : ∀ σ H Q, t' σ H Q → t σ H Q) : PA X es t' :=
  ⟨fun pos pins s σ H Q I h' => h.run pos pins s σ H _ I (k _ _ _ h')⟩
/-- a value to keep: what it owns is fresh -/
def liftE (K : PySem.W.Frag) (B : Bs) (T : XE) : TE := fun σ H Q => ∃ γ F Q', Rel K B γ F H σ ∧ T γ Q' ∧
  ∀ v F' H' c fp, Go B F H F' H' → SzH K H' → CR K B.dd F' H' v c fp → fp.Nodup → (∀ a ∈ fp, H a = none ∧ F' a = none) → Q' c → Q v H'
/-- a value that is read at once -/
def liftR (K : PySem.W.Frag) (B : Bs) (T : XE) : TE := fun σ H Q => ∃ γ F Q', Rel K B γ F H σ ∧ T γ Q' ∧
  ∀ v F' H' c fp, Go B F H F' H' → SzH K H' → CR K B.dd F' H' v c fp → (∀ a ∈ fp, a ∉ B.ms) → Q' c → Q v H'
def liftT (K : PySem.W.Frag) (B : Bs) (T : XT) : TT := fun σ H Q => ∃ γ F Q', Rel K B γ F H σ ∧ T γ Q' ∧ ∀ b F' H', Go B F H F' H' → Q' b → Q b H'
def liftA (K : PySem.W.Frag) (B : Bs) (T : XA) : TA := fun σ H Q => ∃ γ F Q', Rel K B γ F H σ ∧ T γ Q' ∧
  ∀ vs F' H' cs fp, Go B F H F' H' → CRs K B.dd F' H' vs cs fp → fp.Nodup → (∀ a ∈ fp, H a = none ∧ F' a = none) → Q' cs → Q vs H'
def DE (X : Cx) (B : Bs) (e : Expr) (T : XE) : Prop := PE X e (liftE X.K B T)
def DR (X : Cx) (B : Bs) (e : Expr) (T : XE) : Prop := PE X e (liftR X.K B T)
def DT (X : Cx) (B : Bs) (e : Expr) (T : XT) : Prop := PT X e (liftT X.K B T)
def DW (X : Cx) (B : Bs) (e : Expr) (T : XT) : Prop := PW X e (liftT X.K B T)
def DA (X : Cx) (B : Bs) (es : List Expr) (T : XA) : Prop := PA X es (liftA X.K B T)
/-- cells that own nothing -/
def Cell.flat : Cell → Bool
  | .im _ => true
  | .fk _ _ => true
  | .ft _ _ => true
  | .deck => true
  | .fn _ _ => true
  | _ => false
theorem CR.flat {K : PySem.W.Frag} {da : Option Addr} {F H : Hp} {v : V} {c : Cell} {fp : List Addr} (h : CR K da F H v c fp) (f : c.flat = true) : fp = [] := by
  cases h <;> first | rfl | cases f
section
variable {X : Cx} {B : Bs} {e a b : Expr} {T Ta Tb : XE} {pos : Pos}
theorem dr_of_de (h : DE X B e T) : DR X B e T := pe_imp h fun σ H Q ⟨γ, F, Q', R, hT, k⟩ _ =>
  ⟨γ, F, Q', R, hT, fun v F' H' c fp g sz cr _ fr q _ => k v F' H' c fp g sz cr (fun a m => not_ms R.dk (fr a m).1) q⟩
@[simp] def xFlat (T : XE) : XE := fun γ K => T γ fun c => c.flat = true ∧ K c
theorem de_of_dr (h : DR X B e T) : DE X B e (xFlat T) := pe_imp h fun σ H Q ⟨γ, F, Q', R, hT, k⟩ _ =>
  ⟨γ, F, _, R, hT, fun v F' H' c fp g sz cr _ q _ => by
    have z := cr.flat q.1
    subst z
    exact k v F' H' c [] g sz cr List.nodup_nil (fun _ m => nomatch m) q.2⟩
@[simp] def xVar (i : Nat) : XE := fun γ K => ∃ c, γ[i]? = some c ∧ c.flat = true ∧ K c
@[simp] def xVarR (i : Nat) : XE := fun γ K => ∃ c, γ[i]? = some c ∧ c ≠ .un ∧ K c
theorem de_var {i : Nat} {x : Str} (hN : X.N[i]? = some x := by rfl) (hv : Vis X.env.scope x := by first | exact Or.inl rfl | exact Or.inr (Or.inl rfl) | exact Or.inr (Or.inr rfl)) (hd : (x == ("__debug__" : Str)) = false := by decide)
    (hcd : (x == ("__classdict__" : Str)) = false := by decide) : DE X B (.Name x pos) (xVar i) := pe_imp (pe_var hN hv hd hcd) fun σ H Q ⟨γ, F, Q', R, ⟨c, e, fl, q⟩, k⟩ sz => by
  obtain ⟨v, f, h1, h2, h3, h4⟩ := R.get e (by rintro rfl; cases fl)
  have z := h2.flat fl
  subst z
  exact ⟨v, h1, fun sz' => k v F H c [] R.refl sz' h2 List.nodup_nil (fun _ m => nomatch m) q⟩
theorem dr_var {i : Nat} {x : Str} (hN : X.N[i]? = some x := by rfl) (hv : Vis X.env.scope x := by first | exact Or.inl rfl | exact Or.inr (Or.inl rfl) | exact Or.inr (Or.inr rfl)) (hd : (x == ("__debug__" : Str)) = false := by decide)
    (hcd : (x == ("__classdict__" : Str)) = false := by decide) : DR X B (.Name x pos) (xVarR i) := pe_imp (pe_var hN hv hd hcd) fun σ H Q ⟨γ, F, Q', R, ⟨c, e, n, q⟩, k⟩ sz => by
  obtain ⟨v, f, h1, h2, h3, h4⟩ := R.get e n
  exact ⟨v, h1, fun sz' => k v F H c f R.refl sz' h2 (fun a m => (h4 a m).2.2) q⟩
@[simp] def xC (d : D) : XE := fun _ K => K (.im d)
theorem de_const {v : V} {d : D} {e : Expr} (h : PE X e (tC v)) (hd : ∀ F, Dp X.K F v d) : DE X B e (xC d) := pe_imp h fun σ H Q ⟨γ, F, Q', R, q, k⟩ _ =>
  fun sz' => k v F H (.im d) [] R.refl sz' (.im (hd F)) List.nodup_nil (fun _ m => nomatch m) q
theorem de_int {i j} : DE X B (.Constant (.int i) j pos) (xC (.int i)) := de_const pe_int fun _ => .int i
theorem de_bl {b j} : DE X B (.Constant (.bool b) j pos) (xC (.bool b)) := de_const pe_bl fun _ => .bl b
theorem de_non {j} : DE X B (.Constant .none j pos) (xC .none) := de_const pe_non fun _ => .non
theorem de_str {x j} : DE X B (.Constant (.str x) j pos) (xC (.str x)) := de_const pe_str fun _ => .str x
theorem de_glob {x : Str} {v : V} {u : Value} {d : D} (hg : Gl X x) (hm : X.mg x = some u) (r : RelV v u) (hd : ∀ F, Dp X.K F v d) (hdb : (x == ("__debug__" : Str)) = false := by decide) : DE X B (.Name x pos) (xC d) :=
  de_const (pe_glob hg hm r hdb) hd
end
/-- what an operation by values may give -/
def Gives (K : PySem.W.Frag) (B : Bs) (F H : Hp) (K' : Cell → Prop) (Q : VK) : Prop :=
  ∀ v F' H' c fp, Go B F H F' H' → SzH K H' → CR K B.dd F' H' v c fp → fp.Nodup → (∀ a ∈ fp, H a = none ∧ F' a = none) → K' c → Q v H'
/-- a rule by values, told by cells -/
def R2Ok (K : PySem.W.Frag) (B : Bs) (r : R2) (R : Cell → Cell → (Cell → Prop) → Prop) : Prop :=
  ∀ F H x y c1 c2 f1 f2 K' Q, Same F H → DeckOk B H → SzH K H → CR K B.dd F H x c1 f1 → CR K B.dd F H y c2 f2 → R c1 c2 K' → Gives K B F H K' Q → r x y H (fun v H' => SzH K H' → Q v H')
def R1Ok (K : PySem.W.Frag) (B : Bs) (r : V → Hp → VK → Prop) (R : Cell → (Cell → Prop) → Prop) : Prop :=
  ∀ F H x c1 f1 K' Q, Same F H → DeckOk B H → SzH K H → CR K B.dd F H x c1 f1 → R c1 K' → Gives K B F H K' Q → r x H (fun v H' => SzH K H' → Q v H')
@[simp] def x2 (R : Cell → Cell → (Cell → Prop) → Prop) (Ta Tb : XE) : XE := fun γ K => Ta γ fun c1 => Tb γ fun c2 => R c1 c2 K
@[simp] def x1 (R : Cell → (Cell → Prop) → Prop) (Ta : XE) : XE := fun γ K => Ta γ fun c1 => R c1 K
section
variable {X : Cx} {B : Bs} {e a b : Expr} {T Ta Tb : XE} {pos : Pos} {r : R2} {R : Cell → Cell → (Cell → Prop) → Prop}
/-- what is got at (F, H) fits from (F0, H0) on -/
theorem Gives.from {K : PySem.W.Frag} {F H F1 H1 : Hp} {K' : Cell → Prop} {Q : VK} (h : Gives K B F H K' Q) (g : Go B F H F1 H1) : Gives K B F1 H1 K' Q :=
  fun v F' H' c fp g' sz cr nd fr q => h v F' H' c fp (g.trans g') sz cr nd (fun a m => ⟨g.none (fr a m).1, (fr a m).2⟩) q
theorem two {σ : L2.St} {H : Hp} {Q : VK} (ok : R2Ok X.K B r R) (h : liftE X.K B (x2 R Ta Tb) σ H Q) :
    liftR X.K B Ta σ H fun x H1 => liftR X.K B Tb σ H1 fun y H2 => r x y H2 fun v H' => SzH X.K H' → Q v H' := by
  obtain ⟨γ, F, Q', Rl, hT, k⟩ := h
  refine ⟨γ, F, _, Rl, hT, fun x F1 H1 c1 f1 g1 sz1 cr1 fr1 q1 => ⟨γ, F1, _, Rl.step g1, q1, fun y F2 H2 c2 f2 g2 sz2 cr2 fr2 q2 => ?_⟩⟩
  have gk : Gives X.K B F H Q' Q := k
  exact ok F2 H2 x y c1 c2 f1 f2 Q' Q g2.sub g2.dk sz2 (cr1.mono g2.ff fun a m o e => g2.hh a o (fr1 a m) e) cr2 q2 ((gk.from g1).from g2)
theorem de_op {op : Operator} (ho : OpR X (binaryOp op) r) (ok : R2Ok X.K B r R) (ha : DR X B a Ta) (hb : DR X B b Tb) : DE X B (.BinOp a op b pos) (x2 R Ta Tb) :=
  pe_imp (pe_op ho ha hb) fun σ H Q h _ => two ok h
theorem de_cmp {op : CmpOp} (ho : OpR X (compareOp op) r) (hm : behindInMarks op b = false) (ok : R2Ok X.K B r R) (ha : DR X B a Ta) (hb : DR X B b Tb) : DE X B (.Compare a [op] [b] pos) (x2 R Ta Tb) :=
  pe_imp (pe_cmpR ho ha hb hm) fun σ H Q h _ => two ok h
theorem one {r : V → Hp → VK → Prop} {R : Cell → (Cell → Prop) → Prop} {σ : L2.St} {H : Hp} {Q : VK} (ok : R1Ok X.K B r R) (h : liftE X.K B (x1 R Ta) σ H Q) : liftR X.K B Ta σ H fun x H1 => r x H1 fun v H' => SzH X.K H' → Q v H' := by
  obtain ⟨γ, F, Q', Rl, hT, k⟩ := h
  have gk : Gives X.K B F H Q' Q := k
  exact ⟨γ, F, _, Rl, hT, fun x F1 H1 c1 f1 g1 sz1 cr1 fr1 q1 => ok F1 H1 x c1 f1 Q' Q g1.sub g1.dk sz1 cr1 q1 (gk.from g1)⟩
theorem de_un {op : UnaryOp} {r : V → Hp → VK → Prop} {R : Cell → (Cell → Prop) → Prop} (ho : UnR X (unaryOp op) r) (ok : R1Ok X.K B r R) (ha : DR X B a Ta) : DE X B (.UnaryOp op a pos) (x1 R Ta) :=
  pe_imp (pe_un ho ha) fun σ H Q h _ => one ok h
end
section
variable {K : PySem.W.Frag} {B : Bs} {F H : Hp} {K' : Cell → Prop} {Q : VK}
theorem Gives.data (g : Gives K B F H K' Q) (s : Same F H) (d : DeckOk B H) {v : V} {x : D} (h : Dp K F v x) (q : K' (.im x)) : SzH K H → Q v H := fun sz =>
  g v F H (.im x) [] (Go.refl s d) sz (.im h) List.nodup_nil (fun _ m => nomatch m) q
/-- a new tuple of data -/
theorem Gives.tup (g : Gives K B F H K' Q) (s : Same F H) (d : DeckOk B H) {vs : List V} {ds : List D} (h : DpAll K F vs ds) (q : K' (.im (.tuple ds))) {p : Addr} (np : H p = none) : SzH K (upd H p (.tup vs)) → Q (.ref p) (upd H p (.tup vs)) := fun sz => by
  have g1 := Go.newF (o := .tup vs) s d np
  exact g (.ref p) _ _ (.im (.tuple ds)) [] g1 sz (.im (.tup (.inl (.inl upd_same)) (DpAll.mono g1.ff h))) List.nodup_nil (fun _ m => nomatch m) q
/-- a new list of cells -/
theorem Gives.lst (g : Gives K B F H K' Q) (s : Same F H) (d : DeckOk B H) {vs : List V} {cs : List Cell} {fp : List Addr} (h : CRs K B.dd F H vs cs fp) (nd : fp.Nodup) (fr : ∀ a ∈ fp, False) (q : K' (.ow cs)) {p : Addr} (np : H p = none) : SzH K (upd H p (.lst vs)) → Q (.ref p) (upd H p (.lst vs)) := fun sz => by
  have g1 := Go.new (o := .lst vs) s d np
  have e : fp = [] := by
    cases fp with
    | nil => rfl
    | cons a r => exact (fr a List.mem_cons_self).elim
  subst e
  refine g (.ref p) _ _ (.ow cs) [p] g1 sz (.ow upd_same (h.mono g1.ff fun _ m => nomatch m)) (by simp) (fun a m => ?_) q
  have z : a = p := by simpa using m
  subst z
  refine ⟨np, ?_⟩
  cases e : F a with
  | none => rfl
  | some o => rw [s a o e] at np; cases np
theorem Gives.lstD (g : Gives K B F H K' Q) (s : Same F H) (d : DeckOk B H) {vs : List V} {ds : List D} (h : DpAll K F vs ds) (q : K' (.ow (ds.map .im))) {p : Addr} (np : H p = none) : SzH K (upd H p (.lst vs)) → Q (.ref p) (upd H p (.lst vs)) :=
  g.lst s d (CRs.ofDp h) List.nodup_nil (fun _ m => nomatch m) q np
end
theorem CR.int {K : PySem.W.Frag} {da : Option Addr} {F H : Hp} {v : V} {i : Int} {fp : List Addr} (h : CR K da F H v (.im (.int i)) fp) : v = .int i := by cases h with | im h => cases h; rfl
theorem CR.str {K : PySem.W.Frag} {da : Option Addr} {F H : Hp} {v : V} {i : Str} {fp : List Addr} (h : CR K da F H v (.im (.str i)) fp) : v = .str i := by cases h with | im h => cases h; rfl
theorem CR.bl {K : PySem.W.Frag} {da : Option Addr} {F H : Hp} {v : V} {i : Bool} {fp : List Addr} (h : CR K da F H v (.im (.bool i)) fp) : v = .bl i := by cases h with | im h => cases h; rfl
theorem CR.non {K : PySem.W.Frag} {da : Option Addr} {F H : Hp} {v : V} {fp : List Addr} (h : CR K da F H v (.im .none) fp) : v = .non := by cases h with | im h => cases h; rfl
theorem CR.tup {K : PySem.W.Frag} {da : Option Addr} {F H : Hp} {v : V} {ds : List D} {fp : List Addr} (h : CR K da F H v (.im (.tuple ds)) fp) : ∃ a vs, v = .ref a ∧ SqT K F a vs ∧ DpAll K F vs ds := by cases h with | im h => cases h with | tup h1 h2 => exact ⟨_, _, rfl, h1, h2⟩
/-- a list of data, frozen or owned -/
def lstD : Cell → Option (List D)
  | .im (.list ds) => some ds
  | .ow cs => toDs cs
  | _ => none
@[simp] theorem lstD_ow (ds : List D) : lstD (.ow (ds.map .im)) = some ds := by simp [lstD, toDs_im]
@[simp] theorem lstD_nil : lstD (.ow []) = some [] := by simp [lstD, toDs]
@[simp] theorem lstD_im (ds : List D) : lstD (.im (.list ds)) = some ds := rfl
theorem CR.toH {K : PySem.W.Frag} {da : Option Addr} {F H : Hp} {v : V} {c : Cell} {fp : List Addr} {d : D} (s : Same F H) (h : CR K da F H v c fp) (e : toD c = some d) : Dp K H v d := Dp.mono (addF_sub s) (h.dp s e)
theorem CR.lst {K : PySem.W.Frag} {da : Option Addr} {F H : Hp} {v : V} {c : Cell} {ds : List D} {fp : List Addr} (s : Same F H) (h : CR K da F H v c fp) (e : lstD c = some ds) : ∃ a vs, v = .ref a ∧ SqL K H a vs ∧ DpAll K H vs ds := by
  cases c with
  | im d =>
    cases d with
    | list es =>
      simp at e; subst e
      cases h with
      | im h => cases h with | lst h1 h2 => exact ⟨_, _, rfl, s.seq h1, DpAll.mono s h2⟩
    | _ => cases e
  | ow cs =>
    have e' : toDs cs = some ds := e
    have := h.toH s (show toD (.ow cs) = some (.list ds) by simp [toD, e'])
    cases this with | lst h1 h2 => exact ⟨_, _, rfl, h1, h2⟩
  | _ => cases e
/-- .. whose items are frozen -/
def imsOf : List Cell → Option (List D)
  | [] => some []
  | .im d :: cs => (imsOf cs).map (d :: ·)
  | _ :: _ => none
@[simp] theorem imsOf_map (ds : List D) : imsOf (ds.map .im) = some ds := by
  induction ds with
  | nil => rfl
  | cons d ds ih => simp [imsOf, ih]
theorem imsOf_eq : ∀ {cs : List Cell} {ds : List D}, imsOf cs = some ds → cs = ds.map .im
  | [], ds, h => by simp [imsOf] at h; subst h; rfl
  | .im d :: cs, ds, h => by
    simp only [imsOf, Option.map_eq_some_iff] at h
    obtain ⟨es, h1, h2⟩ := h
    subst h2
    rw [imsOf_eq h1]; rfl
  | .un :: _, _, h => by cases h
  | .ow _ :: _, _, h => by cases h
  | .dk _ _ :: _, _, h => by cases h
  | .dt _ _ :: _, _, h => by cases h
  | .fk _ _ :: _, _, h => by cases h
  | .ft _ _ :: _, _, h => by cases h
  | .deck :: _, _, h => by cases h
  | .fn _ _ :: _, _, h => by cases h
def lstF : Cell → Option (List D)
  | .im (.list ds) => some ds
  | .ow cs => imsOf cs
  | _ => none
@[simp] theorem lstF_ow (ds : List D) : lstF (.ow (ds.map .im)) = some ds := by simp [lstF]
@[simp] theorem lstF_nil : lstF (.ow []) = some [] := by simp [lstF, imsOf]
@[simp] theorem lstF_im (ds : List D) : lstF (.im (.list ds)) = some ds := rfl
theorem CR.frl {K : PySem.W.Frag} {da : Option Addr} {F H : Hp} {v : V} {c : Cell} {ds : List D} {fp : List Addr} (s : Same F H) (h : CR K da F H v c fp) (e : lstF c = some ds) : ∃ a vs, v = .ref a ∧ (SqL K F a vs ∨ (H a = some (.lst vs) ∧ fp = [a])) ∧ DpAll K F vs ds := by
  cases c with
  | im d =>
    cases d with
    | list es =>
      simp at e; subst e
      cases h with
      | im h => cases h with | lst h1 h2 => exact ⟨_, _, rfl, .inl h1, h2⟩
    | _ => cases e
  | ow cs =>
    have e' : imsOf cs = some ds := e
    have e2 := imsOf_eq e'
    subst e2
    cases h with
    | ow h hs =>
      obtain ⟨h1, h2⟩ := CRs.toDp hs
      subst h2
      exact ⟨_, _, rfl, .inr ⟨h, rfl⟩, h1⟩
  | _ => cases e
theorem sq_of {K : PySem.W.Frag} {F H : Hp} {a : Addr} {vs : List V} {fp : List Addr} (s : Same F H) (h : SqL K F a vs ∨ (H a = some (.lst vs) ∧ fp = [a])) : SqL K H a vs := by
  rcases h with h | h
  · exact s.seq h
  · exact .inl (.inl h.1)
/-- two ints -/
@[simp] def cI (C : Int → Int → Prop) (g : Int → Int → Int) : Cell → Cell → (Cell → Prop) → Prop := fun a b K => ∃ i j, a = .im (.int i) ∧ b = .im (.int j) ∧ C i j ∧ K (.im (.int (g i j)))
theorem ok_I {K : PySem.W.Frag} {B : Bs} {C : Int → Int → Prop} {g : Int → Int → Int} : R2Ok K B (rI C fun i j => .int (g i j)) (cI C g) := fun F H x y c1 c2 f1 f2 K' Q s d sz h1 h2 ⟨i, j, e1, e2, hc, q⟩ gv => by
  subst e1 e2
  rw [h1.int, h2.int]
  exact ⟨i, j, rfl, rfl, hc, gv.data s d (.int _) q⟩
@[simp] def cI0 (g : Int → Int → Int) : Cell → Cell → (Cell → Prop) → Prop := fun a b K => ∃ i j, a = .im (.int i) ∧ b = .im (.int j) ∧ K (.im (.int (g i j)))
theorem ok_I0 {K : PySem.W.Frag} {B : Bs} {g : Int → Int → Int} : R2Ok K B (rI0 fun i j => .int (g i j)) (cI0 g) := fun F H x y c1 c2 f1 f2 K' Q s d sz h1 h2 ⟨i, j, e1, e2, q⟩ gv => by
  subst e1 e2
  rw [h1.int, h2.int]
  exact ⟨i, j, rfl, rfl, gv.data s d (.int _) q⟩
@[simp] def cB0 (g : Int → Int → Bool) : Cell → Cell → (Cell → Prop) → Prop := fun a b K => ∃ i j, a = .im (.int i) ∧ b = .im (.int j) ∧ K (.im (.bool (g i j)))
theorem ok_B0 {K : PySem.W.Frag} {B : Bs} {g : Int → Int → Bool} : R2Ok K B (rI0 fun i j => .bl (g i j)) (cB0 g) := fun F H x y c1 c2 f1 f2 K' Q s d sz h1 h2 ⟨i, j, e1, e2, q⟩ gv => by
  subst e1 e2
  rw [h1.int, h2.int]
  exact ⟨i, j, rfl, rfl, gv.data s d (.bl _) q⟩
/-- + : ints, texts, tuples, lists -/
@[simp] def cAdd : Cell → Cell → (Cell → Prop) → Prop := fun a b K =>
  (∃ i j, a = .im (.int i) ∧ b = .im (.int j) ∧ K (.im (.int (i + j)))) ∨
  (∃ xs ys, a = .im (.tuple xs) ∧ b = .im (.tuple ys) ∧ xs.length + ys.length ≤ sizeLine ∧ K (.im (.tuple (xs ++ ys)))) ∨
  (∃ (xs ys : List D), a = .ow (xs.map .im) ∧ b = .ow (ys.map .im) ∧ xs.length + ys.length ≤ sizeLine ∧ K (.ow ((xs ++ ys).map .im))) ∨
  (∃ i j, a = .im (.str i) ∧ b = .im (.str j) ∧ i.length + j.length ≤ sizeLine ∧ K (.im (.str (i ++ j))))
def rAddAll (K : PySem.W.Frag) : R2 := fun x y H Q => rI0 (fun i j => .int (i + j)) x y H Q ∨ (rCatA K x y H Q ∨ (rCat x y H Q ∨ ∃ i j, x = .str i ∧ y = .str j ∧ i.length + j.length ≤ sizeLine ∧ Q (.str (i ++ j)) H))
theorem op_addAll {X : Cx} : OpR X (binaryOp .Add) (rAddAll X.K) := op_add.or (op_catA.or (op_cat.or op_add_str))
theorem ok_Add {K : PySem.W.Frag} {B : Bs} : R2Ok K B (rAddAll K) cAdd := fun F H x y c1 c2 f1 f2 K' Q s d sz h1 h2 h gv => by
  rcases h with ⟨i, j, e1, e2, q⟩ | ⟨xs, ys, e1, e2, hl, q⟩ | ⟨xs, ys, e1, e2, hl, q⟩ | ⟨i, j, e1, e2, hl, q⟩
  · subst e1 e2
    rw [h1.int, h2.int]
    exact .inl ⟨i, j, rfl, rfl, gv.data s d (.int _) q⟩
  · subst e1 e2
    obtain ⟨p1, vs1, rfl, t1, a1⟩ := h1.tup
    obtain ⟨p2, vs2, rfl, t2, a2⟩ := h2.tup
    have l1 := DpAll.length a1
    have l2 := DpAll.length a2
    refine .inr (.inl ⟨p1, p2, vs1, vs2, rfl, rfl, SqT.mono s t1, SqT.mono s t2, by rw [l1, l2]; exact hl, fun e => ?_, fun _ e => ?_, fun _ _ p np => ?_⟩)
    · subst e
      cases a1
      exact gv.data s d (.tup t2 a2) q
    · subst e
      cases a2
      rw [List.append_nil] at q
      exact gv.data s d (.tup t1 a1) q
    · exact gv.tup s d (DpAll.app a1 a2) q np
  · subst e1 e2
    cases h1 with
    | ow t1 s1 =>
      cases h2 with
      | ow t2 s2 =>
        obtain ⟨a1, _⟩ := CRs.toDp s1
        obtain ⟨a2, _⟩ := CRs.toDp s2
        refine .inr (.inr (.inl ⟨_, _, _, _, rfl, rfl, t1, t2, by rw [DpAll.length a1, DpAll.length a2]; exact hl, fun p np => gv.lstD s d (DpAll.app a1 a2) q np⟩))
  · subst e1 e2
    rw [h1.str, h2.str]
    exact .inr (.inr (.inr ⟨i, j, rfl, rfl, hl, gv.data s d (.str _) q⟩))
/-- xs * k : lists -/
def cMul : Cell → Cell → (Cell → Prop) → Prop := fun a b K =>
  (∃ i j, a = .im (.int i) ∧ b = .im (.int j) ∧ CMul i j ∧ K (.im (.int (i * j)))) ∨
  (∃ (xs : List D) (k : Int), a = .ow (xs.map .im) ∧ b = .im (.int k) ∧ -(2 ^ 63) ≤ k ∧ k < 2 ^ 63 ∧ xs.length * k.toNat ≤ sizeLine ∧ K (.ow ((List.flatten (List.replicate k.toNat xs)).map .im)))
/-- == and != of data -/
@[simp] def cEq : Cell → Cell → (Cell → Prop) → Prop := fun a b K => ∃ d e, toD a = some d ∧ toD b = some e ∧ SeqAt.shaped d = true ∧ SeqAt.shaped e = true ∧ K (.im (.bool (PyData.eqv d e)))
@[simp] def cNe : Cell → Cell → (Cell → Prop) → Prop := fun a b K => ∃ d e, toD a = some d ∧ toD b = some e ∧ SeqAt.shaped d = true ∧ SeqAt.shaped e = true ∧ K (.im (.bool (!PyData.eqv d e)))
theorem ok_Eq {K : PySem.W.Frag} {B : Bs} : R2Ok K B (rEqD K) cEq := fun F H x y c1 c2 f1 f2 K' Q s d sz h1 h2 ⟨d1, d2, e1, e2, s1, s2, q⟩ gv =>
  ⟨d1, d2, h1.toH s e1, h2.toH s e2, s1, s2, gv.data s d (.bl _) q⟩
theorem ok_Ne {K : PySem.W.Frag} {B : Bs} : R2Ok K B (rNeD K) cNe := fun F H x y c1 c2 f1 f2 K' Q s d sz h1 h2 ⟨d1, d2, e1, e2, s1, s2, q⟩ gv =>
  ⟨d1, d2, h1.toH s e1, h2.toH s e2, s1, s2, gv.data s d (.bl _) q⟩
/-- x in a list or tuple of data -/
def seqD : Cell → Option (List D)
  | .im (.tuple ds) => some ds
  | c => lstD c
def rInT (K : PySem.W.Frag) : R2 := fun x y H Q => ∃ d ds, Dp K H x d ∧ Dp K H y (.tuple ds) ∧ SeqAt.shaped d = true ∧ SeqAt.shaped (.list ds) = true ∧ Q (.bl (ds.any fun z => PyData.eqv z d)) H
def rNotInT (K : PySem.W.Frag) : R2 := fun x y H Q => ∃ d ds, Dp K H x d ∧ Dp K H y (.tuple ds) ∧ SeqAt.shaped d = true ∧ SeqAt.shaped (.list ds) = true ∧ Q (.bl (!ds.any fun z => PyData.eqv z d)) H
theorem op_inT {X : Cx} (hu : X.A.units + 65 < cLine) : OpR X (compareOp .In) (rInT X.K) := by
  intro pins s σ H x y v u Q I rx ry h
  obtain ⟨d, ds, hd, he, sd, se, q⟩ := h
  obtain ⟨as, r1⟩ := Dp.reads I d x v hd rx
  obtain ⟨bs, r2⟩ := Dp.reads I (.tuple ds) y u he ry
  exact SeqAt.in_tuple_reads r2 r1 (SeqAt.canLay_of_shaped se) (SeqAt.canLay_of_shaped sd) (room_in_shaped sd hu) ⟨.bl _, H, I, rfl, q⟩
theorem op_notInT {X : Cx} (hu : X.A.units + 65 < cLine) : OpR X (compareOp .NotIn) (rNotInT X.K) := by
  intro pins s σ H x y v u Q I rx ry h
  obtain ⟨d, ds, hd, he, sd, se, q⟩ := h
  obtain ⟨as, r1⟩ := Dp.reads I d x v hd rx
  obtain ⟨bs, r2⟩ := Dp.reads I (.tuple ds) y u he ry
  exact SeqAt.notIn_tuple_reads r2 r1 (SeqAt.canLay_of_shaped se) (SeqAt.canLay_of_shaped sd) (room_in_shaped sd hu) ⟨.bl _, H, I, rfl, q⟩
@[simp] def cIn (neg : Bool) : Cell → Cell → (Cell → Prop) → Prop := fun a b K => ∃ d ds, toD a = some d ∧ seqD b = some ds ∧ SeqAt.shaped d = true ∧ SeqAt.shaped (.list ds) = true ∧ K (.im (.bool (neg ^^ ds.any fun z => PyData.eqv z d)))
theorem op_inAll {X : Cx} (hu : X.A.units + 65 < cLine) : OpR X (compareOp .In) (fun x y H Q => rInD X.K x y H Q ∨ rInT X.K x y H Q) := (op_inD hu).or (op_inT hu)
theorem op_notInAll {X : Cx} (hu : X.A.units + 65 < cLine) : OpR X (compareOp .NotIn) (fun x y H Q => rNotInD X.K x y H Q ∨ rNotInT X.K x y H Q) := (op_notInD hu).or (op_notInT hu)
theorem seqD_cases {c : Cell} {ds : List D} (h : seqD c = some ds) : c = .im (.tuple ds) ∨ (lstD c = some ds) := by
  unfold seqD at h
  split at h
  · injection h with h; subst h; exact .inl rfl
  · exact .inr h
theorem lstD_toD {c : Cell} {ds : List D} (h : lstD c = some ds) : toD c = some (.list ds) := by
  unfold lstD at h
  split at h
  · injection h with h; subst h; simp [toD]
  · simp [toD, h]
  · cases h
theorem ok_In {K : PySem.W.Frag} {B : Bs} : R2Ok K B (fun x y H Q => rInD K x y H Q ∨ rInT K x y H Q) (cIn false) := fun F H x y c1 c2 f1 f2 K' Q s d sz h1 h2 ⟨d1, ds, e1, e2, s1, s2, q⟩ gv => by
  rcases seqD_cases e2 with e | e
  · subst e
    exact .inr ⟨d1, ds, h1.toH s e1, h2.toH s (by simp [toD]), s1, s2, gv.data s d (.bl _) (by simpa using q)⟩
  · exact .inl ⟨d1, ds, h1.toH s e1, h2.toH s (lstD_toD e), s1, s2, gv.data s d (.bl _) (by simpa using q)⟩
theorem ok_NotIn {K : PySem.W.Frag} {B : Bs} : R2Ok K B (fun x y H Q => rNotInD K x y H Q ∨ rNotInT K x y H Q) (cIn true) := fun F H x y c1 c2 f1 f2 K' Q s d sz h1 h2 ⟨d1, ds, e1, e2, s1, s2, q⟩ gv => by
  rcases seqD_cases e2 with e | e
  · subst e
    exact .inr ⟨d1, ds, h1.toH s e1, h2.toH s (by simp [toD]), s1, s2, gv.data s d (.bl _) (by simpa using q)⟩
  · exact .inl ⟨d1, ds, h1.toH s e1, h2.toH s (lstD_toD e), s1, s2, gv.data s d (.bl _) (by simpa using q)⟩
end DL
set_option maxHeartbeats 1000000
namespace DL
open PySem PySem.Spec PyProof.Rows L2
section
variable {X : Cx} {B : Bs} {e a b c : Expr} {es rest : List Expr} {T Ta Tb Tc : XE} {U U1 U2 : XT} {pos : Pos}
@[simp] def tBl (T : XE) : XT := fun γ K => T γ fun c => ∃ b, c = .im (.bool b) ∧ K b
theorem dt_val (h : DE X B e T) (he : ∀ whole, isTrue e X.env whole = (do let v ← whole; standAt e.pos; holding [v] (truthy v)) := by intro _; rfl) : DT X B e (tBl T) :=
  pt_imp (pt_val h he) fun σ H Q ⟨γ, F, Q', R, hT, k⟩ => ⟨γ, F, _, R, hT, fun v F' H' c fp g sz cr nd fr ⟨b, e, q⟩ => by
    subst e
    rw [cr.bl]
    exact ⟨b, rfl, k b F' H' g q⟩⟩
theorem dt_cmp {op : CmpOp} {r : R2} {R : Cell → Cell → (Cell → Prop) → Prop} (ho : OpR X (compareOp op) r) (hm : behindInMarks op b = false) (ok : R2Ok X.K B r R) (ha : DR X B a Ta) (hb : DR X B b Tb) : DT X B (.Compare a [op] [b] pos) (tBl (x2 R Ta Tb)) := by
  have hsz : OpR X (compareOp op) (fun x y H Q => r x y H fun v H' => SzH X.K H' → Q v H') := fun pins s σ H x y v u Q I rx ry h =>
    thn (ho pins s σ H x y v u _ I rx ry h) fun w s1 ⟨z, H1, I1, r1, q1⟩ => ⟨z, H1, I1, r1, q1 (inv_sz I1)⟩
  have hra : PE X a (fun σ H Q => liftR X.K B Ta σ H Q) := ha
  refine pt_imp (pt_cmpR hsz ha hb hm) fun σ H Q ⟨γ, F, Q', Rl, hT, k⟩ => ?_
  refine two (Q := fun x H' => ∃ k, x = V.bl k ∧ Q k H') ok ⟨γ, F, _, Rl, hT, fun v F' H' c fp g sz cr nd fr ⟨b, e, q⟩ => ?_⟩
  subst e
  rw [cr.bl]
  exact ⟨b, rfl, k b F' H' g q⟩
/-- the truth of a value -/
def truC : Cell → Option Bool
  | .im .none => some false
  | .im (.bool b) => some b
  | .im (.int i) => some (i != 0)
  | .im (.tuple ds) => some (!ds.isEmpty)
  | .im (.list ds) => some (!ds.isEmpty)
  | .ow cs => some (!cs.isEmpty)
  | _ => none
@[simp] def tTru (T : XE) : XT := fun γ K => T γ fun c => ∃ b, truC c = some b ∧ K b
theorem empty_eq {K : PySem.W.Frag} {H : Hp} : ∀ {vs : List V} {ds : List D}, DpAll K H vs ds → vs.isEmpty = ds.isEmpty
  | _, _, .nil => rfl
  | _, _, .cons _ _ => rfl
theorem empty_eqC {K : PySem.W.Frag} {da : Option Addr} {F H : Hp} : ∀ {vs : List V} {ds : List Cell} {fp : List Addr}, CRs K da F H vs ds fp → vs.isEmpty = ds.isEmpty
  | _, _, _, .nil => rfl
  | _, _, _, .cons _ _ => rfl
theorem truC_ok {K : PySem.W.Frag} {da : Option Addr} {F H : Hp} {v : V} {c : Cell} {fp : List Addr} {b : Bool} (s : Same F H) (h : CR K da F H v c fp) (e : truC c = some b) : TruV K v H b := by
  cases h with
  | im h =>
    cases h with
    | non => simp [truC] at e; subst e; rfl
    | bl b => simp [truC] at e; subst e; rfl
    | int i => simp [truC] at e; subst e; rfl
    | str x => simp [truC] at e
    | lst h1 h2 =>
      simp only [truC, Option.some.injEq] at e
      exact .inl ⟨_, s.seq h1, by rw [empty_eq h2]; exact e.symm⟩
    | tup h1 h2 =>
      simp only [truC, Option.some.injEq] at e
      exact .inr (.inl ⟨_, SqT.mono s h1, by rw [empty_eq h2]; exact e.symm⟩)
  | ow h hs =>
    simp only [truC, Option.some.injEq] at e
    exact .inl ⟨_, .inl (.inl h), by rw [empty_eqC hs]; exact e.symm⟩
  | _ => simp [truC] at e
theorem dt_truth (h : DR X B e T) (he : ∀ whole, isTrue e X.env whole = (do let v ← whole; standAt e.pos; holding [v] (truthy v)) := by intro _; rfl) : DT X B e (tTru T) :=
  pt_imp (pt_truth h he) fun σ H Q ⟨γ, F, Q', R, hT, k⟩ => ⟨γ, F, _, R, hT, fun v F' H' c fp g sz cr fr ⟨b, e, q⟩ => ⟨b, truC_ok g.sub cr e, k b F' H' g q⟩⟩
@[simp] def tAndX (T U : XT) : XT := fun γ K => T γ fun b => if b = true then U γ K else K false
@[simp] def tOrX (T U : XT) : XT := fun γ K => T γ fun b => if b = true then K true else U γ K
@[simp] def tNotX (T : XT) : XT := fun γ K => T γ fun b => K (!b)
theorem dt_not (h : DT X B e U) : DT X B (.UnaryOp .Not e pos) (tNotX U) :=
  pt_imp (pt_not h) fun σ H Q ⟨γ, F, Q', R, hT, k⟩ => ⟨γ, F, _, R, hT, fun b F' H' g q => k (!b) F' H' g q⟩
theorem dw_and1 (h : DT X B a U) : DW X B (.BoolOp .And [a] pos) U := pw_and1 h
theorem dw_or1 (h : DT X B a U) : DW X B (.BoolOp .Or [a] pos) U := pw_or1 h
theorem dw_and (ha : DT X B a U1) (hb : DW X B (.BoolOp .And (b :: rest) pos) U2) : DW X B (.BoolOp .And (a :: b :: rest) pos) (tAndX U1 U2) :=
  pw_imp (pw_and ha hb) fun σ H Q ⟨γ, F, Q', R, hT, k⟩ => ⟨γ, F, _, R, hT, fun b F' H' g q => by
    cases b with
    | true => exact iteT ⟨γ, F', Q', R.step g, by simpa using q, fun b2 F2 H2 g2 q2 => k b2 F2 H2 (g.trans g2) q2⟩
    | false => exact iteF (k false F' H' g (by simpa using q))⟩
theorem dw_or (ha : DT X B a U1) (hb : DW X B (.BoolOp .Or (b :: rest) pos) U2) : DW X B (.BoolOp .Or (a :: b :: rest) pos) (tOrX U1 U2) :=
  pw_imp (pw_or ha hb) fun σ H Q ⟨γ, F, Q', R, hT, k⟩ => ⟨γ, F, _, R, hT, fun b F' H' g q => by
    cases b with
    | false => exact iteF ⟨γ, F', Q', R.step g, by simpa using q, fun b2 F2 H2 g2 q2 => k b2 F2 H2 (g.trans g2) q2⟩
    | true => exact iteT (k true F' H' g (by simpa using q))⟩
theorem dt_w (h : DW X B e U) : DT X B e U := PW.pt h
/-- .. as values -/
@[simp] def xAnd (Ta Tb : XE) : XE := fun γ K => Ta γ fun c => ∃ b, c = .im (.bool b) ∧ if b = true then Tb γ K else K (.im (.bool false))
@[simp] def xOr (Ta Tb : XE) : XE := fun γ K => Ta γ fun c => ∃ b, c = .im (.bool b) ∧ if b = true then K (.im (.bool true)) else Tb γ K
@[simp] def xNot (Ta : XE) : XE := fun γ K => Ta γ fun c => ∃ b, c = .im (.bool b) ∧ K (.im (.bool (!b)))
/-- behind a first part -/
theorem then_E {γ : List Cell} {F H F1 H1 : Hp} {σ : L2.St} {Q' : Cell → Prop} {Q : VK} {T : XE} (R : Rel X.K B γ F H σ) (g : Go B F H F1 H1) (h : T γ Q') (k : Gives X.K B F H Q' Q) : liftE X.K B T σ H1 Q :=
  ⟨γ, F1, Q', R.step g, h, k.from g⟩
theorem de_one {op} (h : DE X B a T) : DE X B (.BoolOp op [a] pos) T := pe_one h
theorem de_and (ha : DE X B a Ta) (hb : DE X B (.BoolOp .And (b :: rest) pos) Tb) : DE X B (.BoolOp .And (a :: b :: rest) pos) (xAnd Ta Tb) :=
  pe_imp (pe_and ha hb) fun σ H Q ⟨γ, F, Q', R, hT, k⟩ _ => ⟨γ, F, _, R, hT, fun v F' H' c fp g sz cr nd fr ⟨b, e, q⟩ => by
    subst e
    rw [cr.bl]
    have gk : Gives X.K B F H Q' Q := k
    refine ⟨b, rfl, ?_⟩
    cases b with
    | true => exact iteT (then_E (Q := fun v H' => SzH X.K H' → Q v H') R g (by simpa using q) fun v F2 H2 c fp g2 sz cr nd fr q _ => gk v F2 H2 c fp g2 sz cr nd fr q)
    | false => exact iteF fun sz' => (gk.from g).data g.sub g.dk (.bl false) (by simpa using q) sz'⟩
theorem de_or (ha : DE X B a Ta) (hb : DE X B (.BoolOp .Or (b :: rest) pos) Tb) : DE X B (.BoolOp .Or (a :: b :: rest) pos) (xOr Ta Tb) :=
  pe_imp (pe_or ha hb) fun σ H Q ⟨γ, F, Q', R, hT, k⟩ _ => ⟨γ, F, _, R, hT, fun v F' H' c fp g sz cr nd fr ⟨b, e, q⟩ => by
    subst e
    rw [cr.bl]
    have gk : Gives X.K B F H Q' Q := k
    refine ⟨b, rfl, ?_⟩
    cases b with
    | false => exact iteF (then_E (Q := fun v H' => SzH X.K H' → Q v H') R g (by simpa using q) fun v F2 H2 c fp g2 sz cr nd fr q _ => gk v F2 H2 c fp g2 sz cr nd fr q)
    | true => exact iteT fun sz' => (gk.from g).data g.sub g.dk (.bl true) (by simpa using q) sz'⟩
theorem de_not (ha : DE X B a Ta) : DE X B (.UnaryOp .Not a pos) (xNot Ta) :=
  pe_imp (pe_not ha) fun σ H Q ⟨γ, F, Q', R, hT, k⟩ _ => ⟨γ, F, _, R, hT, fun v F' H' c fp g sz cr nd fr ⟨b, e, q⟩ => by
    subst e
    rw [cr.bl]
    have gk : Gives X.K B F H Q' Q := k
    exact ⟨b, rfl, (gk.from g).data g.sub g.dk (.bl _) q⟩⟩
@[simp] def xIf (U : XT) (Ta Tb : XE) : XE := fun γ K => U γ fun b => if b = true then Ta γ K else Tb γ K
theorem de_if (hc : DT X B c U) (ha : DE X B a Ta) (hb : DE X B b Tb) : DE X B (.IfExp c a b pos) (xIf U Ta Tb) :=
  pe_imp (pe_ifExp hc ha hb) fun σ H Q ⟨γ, F, Q', R, hT, k⟩ _ => ⟨γ, F, _, R, hT, fun d F' H' g q => by
    have gk : Gives X.K B F H Q' Q := k
    cases d with
    | true => exact iteT (then_E (Q := fun v H' => SzH X.K H' → Q v H') R g (by simpa using q) fun v F2 H2 c fp g2 sz cr nd fr q _ => gk v F2 H2 c fp g2 sz cr nd fr q)
    | false => exact iteF (then_E (Q := fun v H' => SzH X.K H' → Q v H') R g (by simpa using q) fun v F2 H2 c fp g2 sz cr nd fr q _ => gk v F2 H2 c fp g2 sz cr nd fr q)⟩
/-- a <= b <= c of ints -/
@[simp] def xChain (g1 g2 : Int → Int → Bool) (Ta Tb Tc : XE) : XE := fun γ K => Ta γ fun c1 => Tb γ fun c2 => ∃ i j, c1 = .im (.int i) ∧ c2 = .im (.int j) ∧ if g1 i j = true then Tc γ fun c3 => ∃ k, c3 = .im (.int k) ∧ K (.im (.bool (g2 j k))) else K (.im (.bool false))
theorem de_chain {op op' : CmpOp} {g1 g2 : Int → Int → Bool} (ho : OpR X (compareOp op) (rI0 fun i j => .bl (g1 i j))) (ho' : OpR X (compareOp op') (rI0 fun i j => .bl (g2 i j)))
    (ha : DR X B a Ta) (hb : DR X B b Tb) (hc : DR X B c Tc) (hm : lastMarks [op, op'] [b, c] = false := by with_unfolding_all rfl) : DE X B (.Compare a [op, op'] [b, c] pos) (xChain g1 g2 Ta Tb Tc) :=
  pe_imp (pe_chain ho ho' ha hb hc hm) fun σ H Q ⟨γ, F, Q', R, hT, k⟩ _ => ⟨γ, F, _, R, hT, fun x F1 H1 c1 f1 g1' sz1 cr1 fr1 q1 => ⟨γ, F1, _, R.step g1', q1, fun y F2 H2 c2 f2 g2' sz2 cr2 fr2 ⟨i, j, e1, e2, q2⟩ => by
    subst e1 e2
    have gk : Gives X.K B F H Q' Q := k
    rw [cr1.int, cr2.int]
    refine ⟨i, j, rfl, rfl, _, rfl, ?_⟩
    cases e : g1 i j with
    | false =>
      rw [e] at q2
      exact iteF fun sz' => (gk.from (g1'.trans g2')).data g2'.sub g2'.dk (.bl false) (by simpa using q2) sz'
    | true =>
      rw [e] at q2
      have q2' : Tc γ fun c3 => ∃ k, c3 = .im (.int k) ∧ Q' (.im (.bool (g2 j k))) := by simpa using q2
      refine iteT ?_
      exact ⟨γ, F2, _, (R.step g1').step g2', q2', fun z F3 H3 c3 f3 g3' sz3 cr3 fr3 ⟨m, e3, q3⟩ => by
        subst e3
        rw [cr3.int]
        exact ⟨j, m, rfl, rfl, fun sz' => (gk.from ((g1'.trans g2').trans g3')).data g3'.sub g3'.dk (.bl _) q3 sz'⟩⟩⟩⟩
end
@[simp] def xNil : XA := fun _ K => K []
@[simp] def xCons (T : XE) (U : XA) : XA := fun γ K => T γ fun c => U γ fun cs => K (c :: cs)
/-- read at once -/
def liftB (K : PySem.W.Frag) (B : Bs) (T : XA) : TA := fun σ H Q => ∃ γ F Q', Rel K B γ F H σ ∧ T γ Q' ∧
  ∀ vs F' H' cs fp, Go B F H F' H' → CRs K B.dd F' H' vs cs fp → (∀ a ∈ fp, a ∉ B.ms) → Q' cs → Q vs H'
def DB (X : Cx) (B : Bs) (es : List Expr) (T : XA) : Prop := PA X es (liftB X.K B T)
section
variable {X : Cx} {B : Bs} {e a b c : Expr} {es : List Expr} {T Ta Tb : XE} {U : XA} {pos : Pos}
theorem da_nil : DA X B [] xNil := pa_imp pa_nil fun σ H Q ⟨γ, F, Q', R, hT, k⟩ => k [] F H [] [] R.refl .nil List.nodup_nil (fun _ m => nomatch m) hT
theorem da_cons (h : DE X B e T) (hr : DA X B es U) (hs : starEach (e :: es) X.env = (false, eval e X.env) :: starEach es X.env := by rfl) : DA X B (e :: es) (xCons T U) :=
  pa_imp (pa_cons h hr hs) fun σ H Q ⟨γ, F, Q', R, hT, k⟩ => ⟨γ, F, _, R, hT, fun v F1 H1 c f g1 sz cr nd fr q => ⟨γ, F1, _, R.step g1, q, fun vs F2 H2 cs fp g2 crs nds frs q2 => by
    have d1 := R.dk
    refine k (v :: vs) F2 H2 (c :: cs) (f ++ fp) (g1.trans g2) (.cons (cr.mono g2.ff fun a m o e => g2.hh a o (not_ms d1 (fr a m).1) e) crs) ?_ (fun a m => ?_) q2
    · refine List.nodup_append.mpr ⟨nd, nds, fun a ha b hb e => ?_⟩
      subst e
      obtain ⟨o, z⟩ := cr.there a ha
      rw [(frs a hb).1] at z; cases z
    · rcases List.mem_append.mp m with m | m
      · refine ⟨(fr a m).1, g2.nw a (fr a m).2 ?_⟩
        obtain ⟨o, z⟩ := cr.there a m
        rw [z]; exact fun z => by cases z
      · exact ⟨g1.none (frs a m).1, (frs a m).2⟩⟩⟩
theorem db_nil : DB X B [] xNil := pa_imp pa_nil fun σ H Q ⟨γ, F, Q', R, hT, k⟩ => k [] F H [] [] R.refl .nil (fun _ m => nomatch m) hT
theorem db_cons (h : DR X B e T) (hr : DB X B es U) (hs : starEach (e :: es) X.env = (false, eval e X.env) :: starEach es X.env := by rfl) : DB X B (e :: es) (xCons T U) :=
  pa_imp (pa_cons h hr hs) fun σ H Q ⟨γ, F, Q', R, hT, k⟩ => ⟨γ, F, _, R, hT, fun v F1 H1 c f g1 sz cr fr q => ⟨γ, F1, _, R.step g1, q, fun vs F2 H2 cs fp g2 crs frs q2 => by
    refine k (v :: vs) F2 H2 (c :: cs) (f ++ fp) (g1.trans g2) (.cons (cr.mono g2.ff fun a m o e => g2.hh a o (fr a m) e) crs) (fun a m => ?_) q2
    rcases List.mem_append.mp m with m | m
    · exact fr a m
    · exact frs a m⟩⟩
@[simp] def xTup (U : XA) : XE := fun γ K => U γ fun cs => ∃ ds, toDs cs = some ds ∧ ds.length ≤ sizeLine ∧ K (.im (.tuple ds))
@[simp] def xLst (U : XA) : XE := fun γ K => U γ fun cs => cs.length ≤ sizeLine ∧ K (.ow cs)
theorem toDs_length : ∀ {cs : List Cell} {ds : List D}, toDs cs = some ds → cs.length = ds.length
  | [], ds, h => by simp [toDs] at h; subst h; rfl
  | c :: cs, ds, h => by
    unfold toDs at h
    split at h
    · rename_i d es e1 e2
      injection h with h; subst h
      rw [List.length_cons, List.length_cons, toDs_length e2]
    · cases h
theorem de_tup {k} (h : DA X B es U) : DE X B (.Tuple es k pos) (xTup U) := pe_imp (pe_tup h) fun σ H Q ⟨γ, F, Q', R, hT, kk⟩ _ => ⟨γ, F, _, R, hT, fun vs F1 H1 cs fp g1 crs nd fr ⟨ds, e, hl, q⟩ => by
  have gk : Gives X.K B F H Q' Q := kk
  have g2 := g1.addF fr
  have hd : DpAll X.K (addF F1 H1 fp) vs ds := crs.dps g1.sub e
  exact ⟨by rw [crs.length, toDs_length e]; exact hl, fun p np => (gk.from g2).tup g2.sub g2.dk hd q np⟩⟩
theorem de_lst (h : DA X B es U) : DE X B (.List es pos) (xLst U) := pe_imp (pe_lst h) fun σ H Q ⟨γ, F, Q', R, hT, kk⟩ _ => ⟨γ, F, _, R, hT, fun vs F1 H1 cs fp g1 crs nd fr ⟨hl, q⟩ => ⟨by rw [crs.length]; exact hl, fun p np sz => by
  have g2 := Go.new (o := .lst vs) g1.sub g1.dk np
  have d1 := R.dk
  refine kk (.ref p) F1 _ (.ow cs) (p :: fp) (g1.trans g2) sz (.ow upd_same (crs.mono (Same.refl F1) fun a m o e => g2.hh a o (not_ms d1 (fr a m).1) e)) ?_ (fun a m => ?_) q
  · refine List.nodup_cons.mpr ⟨fun m => ?_, nd⟩
    obtain ⟨o, z⟩ := crs.there p m
    rw [np] at z; cases z
  · rcases List.mem_cons.mp m with e | m
    · subst e
      refine ⟨g1.none np, ?_⟩
      cases e : F1 a with
      | none => rfl
      | some o => rw [g1.sub a o e] at np; cases np
    · exact fr a m⟩⟩
/-- keys of dicts as data -/
def keyD : D → Option Key
  | .int i => some (.inl i)
  | .str s => some (.inr s)
  | _ => none
def keyDs : List D → Option (List Key)
  | [] => some []
  | d :: ds => match keyD d, keyDs ds with
    | some k, some ks => some (k :: ks)
    | _, _ => none
def getK {κ : Type} [DecidableEq κ] (ks : List κ) (cs : List Cell) (k : κ) : Option Cell := ((ks.zip cs).find? fun kv => decide (kv.1 = k)).map (·.2)
/-- c[i] : read at once -/
def ixC : Cell → Cell → Option Cell
  | .im (.tuple ds), .im (.int i) => (atI ds i).map .im
  | .im (.list ds), .im (.int i) => (atI ds i).map .im
  | .ow cs, .im (.int i) => atI cs i
  | .dk ks cs, .im d => (keyD d).bind fun k => getK ks cs k
  | .fk ks cs, .im d => (keyD d).bind fun k => getK ks cs k
  | .dt ks cs, .im (.tuple ds) => (keyDs ds).bind fun k => getK ks cs k
  | .ft ks cs, .im (.tuple ds) => (keyDs ds).bind fun k => getK ks cs k
  | _, _ => none
@[simp] def xIx (Ta Tb : XE) : XE := fun γ K => Ta γ fun c1 => Tb γ fun c2 => ∃ c, ixC c1 c2 = some c ∧ K c
theorem atI_dp {K : PySem.W.Frag} {H : Hp} {vs : List V} {ds : List D} {i : Int} {d : D} (h : DpAll K H vs ds) (e : atI ds i = some d) : ∃ v, atI vs i = some v ∧ Dp K H v d := by
  unfold atI at e ⊢
  rw [DpAll.length h]
  cases q : ixN ds.length i with
  | none => rw [q] at e; cases e
  | some j =>
    rw [q] at e
    exact DpAll.get h e
theorem atI_cr {K : PySem.W.Frag} {da : Option Addr} {F H : Hp} {vs : List V} {cs : List Cell} {fp : List Addr} {i : Int} {c : Cell} (h : CRs K da F H vs cs fp) (e : atI cs i = some c) : ∃ v f, atI vs i = some v ∧ CR K da F H v c f ∧ ∀ a ∈ f, a ∈ fp := by
  unfold atI at e ⊢
  rw [h.length]
  cases q : ixN cs.length i with
  | none => rw [q] at e; cases e
  | some j =>
    rw [q] at e
    obtain ⟨v, f, h1, h2, h3, _⟩ := h.get e
    exact ⟨v, f, h1, h2, h3⟩
theorem getK_cr {K : PySem.W.Frag} {da : Option Addr} {F H : Hp} {κ : Type} [DecidableEq κ] {k : κ} {c : Cell} : ∀ {ks : List κ} {vs : List V} {cs : List Cell} {fp : List Addr}, CRs K da F H vs cs fp → ks.length = vs.length → getK ks cs k = some c →
    ∃ v f, valV (ks.zip vs) k = some v ∧ CR K da F H v c f ∧ ∀ a ∈ f, a ∈ fp
  | [], _, _, _, _, _, e => by simp [getK] at e
  | k0 :: ks, _, _, _, .nil, l, _ => by simp at l
  | k0 :: ks, v :: vs, c0 :: cs, _, .cons (f := f) (fp := fp) h hs, l, e => by
    unfold getK valV at *
    rw [List.zip_cons_cons, List.find?_cons] at e ⊢
    by_cases hk : k0 = k
    · rw [decide_eq_true hk] at e ⊢
      have e' : c0 = c := Option.some.inj e
      subst e'
      exact ⟨v, f, rfl, h, fun a m => List.mem_append_left _ m⟩
    · rw [decide_eq_false hk] at e ⊢
      obtain ⟨v', f', h1, h2, h3⟩ := getK_cr (k := k) hs (by simpa using l) e
      exact ⟨v', f', h1, h2, fun a m => List.mem_append_right _ (h3 a m)⟩
theorem keyD_dp {K : PySem.W.Frag} {H : Hp} {v : V} {d : D} {k : Key} (h : Dp K H v d) (e : keyD d = some k) : v = kV k := by
  cases h <;> simp [keyD] at e <;> subst e <;> rfl
theorem keyDs_dp {K : PySem.W.Frag} {H : Hp} : ∀ {vs : List V} {ds : List D} {ks : List Key}, DpAll K H vs ds → keyDs ds = some ks → vs = ks.map kV
  | _, _, _, .nil, e => by simp [keyDs] at e; subst e; rfl
  | _, _, _, .cons h hs, e => by
    unfold keyDs at e
    split at e
    · rename_i k ks e1 e2
      injection e with e; subst e
      rw [List.map_cons, keyD_dp h e1, keyDs_dp hs e2]
    · cases e
/-- a dict's entry, the key a tuple of any kind -/
def DGk (K : PySem.W.Frag) (H : Hp) (a : Addr) (y : V) (r : Option V) : Prop :=
  (∃ kvs k, Rd H a (.dK kvs) ∧ y = kV k ∧ r = valV kvs k) ∨ ∃ kvs k b, Rd H a (.dT kvs) ∧ y = .ref b ∧ SqT K H b (k.map kV) ∧ r = valV kvs k
theorem key_ofT {pins : List (Addr × Obj)} {σ : L2.St} {H : Hp} {s : Shared} {a : Addr} {ks : List Key} (I : Inv X pins σ H s) (h : SqT X.K H a (ks.map kV)) : (tupleKind (mixKind X.prog X.w)).is s.heap ks a := by
  obtain ⟨its, r, ⟨o, h1, h2, n, h3⟩, _⟩ := I.tuple h
  exact ⟨o, its.toArray, n, h1, h2, h3, by simpa using items_are r⟩
theorem dg_typeIs {pins : List (Addr × Obj)} {σ : L2.St} {H : Hp} {s : Shared} {a : Addr} {y : V} {o : Option V} (I : Inv X pins σ H s) (g : DGk X.K H a y o) : s.TypeIs (.ref a) "dict" := by
  rcases g with ⟨kvs, k, e, _⟩ | ⟨kvs, k, b, e, _⟩
  · exact dict_typeIs I (.inl ⟨kvs, .inl 0, e, rfl, rfl⟩ : DGet H a (kV (.inl 0)) (valV kvs (.inl 0)))
  · obtain ⟨_, _, xs, rel, dd⟩ := dt_rd I.hok e
    obtain ⟨o, es, ep, h1, h2, _⟩ := dd
    exact ⟨o, h1, h2.1⟩
theorem dg_get {A : Around} {E : Value → Shared → Prop} {pins : List (Addr × Obj)} {σ : L2.St} {H : Hp} {s : Shared} {a : Addr} {y v : V} {u : Value} {Q : Value → Shared → Prop} (hu : A.units + 1 < cLine) (I : Inv X pins σ H s) (g : DGk X.K H a y (some v)) (ry : RelV y u) (h : ∀ w' s', Inv X pins σ H s' → RelV v w' → Q w' s') :
    wpAny (model X.prog X.w) A (getItem (.ref a) u) Q E s := by
  rcases g with ⟨kvs, k, e, ey, l⟩ | ⟨kvs, k, b, e, ey, eb, l⟩
  · exact d_getItem hu I (.inl ⟨kvs, k, e, ey, l⟩) ry h
  · subst ey
    cases (show u = Value.ref b from ry)
    obtain ⟨z, hd, xs, rel, dd⟩ := dt_rd I.hok e
    obtain ⟨w', hw, rw'⟩ := RelO.some_of (v := v) (o := (atKey xs k).map (·.2)) (by rw [l]; exact rel.val k)
    obtain ⟨p, hp, hp2⟩ := Option.map_eq_some_iff.mp hw
    refine wpAny_getItem_heap (tupleKind_room_in1 hu) (key_ofT I eb) dd hp ?_
    rw [hp2]
    exact h w' _ (I.tok _) rw'
def rIxD (K : PySem.W.Frag) : R2 := fun x y H Q => ∃ a v, x = .ref a ∧ DGk K H a y (some v) ∧ Q v H
theorem ix_dict (hu : X.A.units + 1 < cLine) : IxR X (rIxD X.K) := by
  intro value slice pins s σ H x y v u Q I rx ry h hs
  obtain ⟨a, w, rfl, g, q⟩ := h
  cases rx
  exact tail_any (dg_typeIs I g) PySem.F.slot_dict_getitem.lookup (dg_get hu I g ry fun w' s3 I3 rw' => ⟨w, H, I3, rw', q⟩) hs
def rIxAll (K : PySem.W.Frag) : R2 := fun x y H Q => rIx K x y H Q ∨ rIxD K x y H Q
theorem ix_all (hu : X.A.units + 1 < cLine) : IxR X (rIxAll X.K) := ix_seq.or (ix_dict hu)
theorem dr_ix (hu : X.A.units + 1 < cLine) (ha : DR X B a Ta) (hb : DR X B b Tb) (hs : PlainIx b := by intro _ _; rfl) : DR X B (.Subscript a b pos) (xIx Ta Tb) :=
  pe_imp (pe_ix (ix_all hu) ha hb hs) fun σ H Q ⟨γ, F, Q', R, hT, k⟩ _ => ⟨γ, F, _, R, hT, fun x F1 H1 c1 f1 g1 sz1 cr1 fr1 q1 => ⟨γ, F1, _, R.step g1, q1, fun y F2 H2 c2 f2 g2 sz2 cr2 fr2 ⟨c, e, q⟩ => by
    have g := g1.trans g2
    have cr1' : CR X.K B.dd F2 H2 x c1 f1 := cr1.mono g2.ff fun a m o e => g2.hh a o (fr1 a m) e
    unfold ixC at e
    split at e
    · rename_i ds i _
      obtain ⟨d, e1, e2⟩ := Option.map_eq_some_iff.mp e
      subst e2
      obtain ⟨p, vs, rfl, t, al⟩ := cr1'.tup
      rw [cr2.int]
      obtain ⟨v, h1, h2⟩ := atI_dp al e1
      exact .inl (.inr (.inl ⟨p, vs, i, v, rfl, rfl, SqT.mono g2.sub t, h1, fun sz' => k v F2 H2 (.im d) [] g sz' (.im h2) (fun _ m => nomatch m) q⟩))
    · rename_i ds i _
      obtain ⟨d, e1, e2⟩ := Option.map_eq_some_iff.mp e
      subst e2
      rw [cr2.int]
      cases cr1' with
      | im h => cases h with
        | lst t al =>
          obtain ⟨v, h1, h2⟩ := atI_dp al e1
          exact .inl (.inl ⟨_, _, i, v, rfl, rfl, g2.sub.seq t, h1, fun sz' => k v F2 H2 (.im d) [] g sz' (.im h2) (fun _ m => nomatch m) q⟩)
    · rename_i cs i _
      rw [cr2.int]
      cases cr1' with
      | ow t al =>
        obtain ⟨v, f, h1, h2, h3⟩ := atI_cr al e
        exact .inl (.inl ⟨_, _, i, v, rfl, rfl, .inl (.inl t), h1, fun sz' => k v F2 H2 c f g sz' h2 (fun a m => fr1 a (List.mem_cons_of_mem _ (h3 a m))) q⟩)
    · rename_i ks cs d _
      obtain ⟨key, e1, e2⟩ := Option.bind_eq_some_iff.mp e
      cases cr2 with
      | im h2 =>
        cases cr1' with
        | dk t l al =>
          obtain ⟨v, f, h1, h3, h4⟩ := getK_cr al l e2
          exact .inr ⟨_, v, rfl, .inl ⟨_, key, .inl t, keyD_dp h2 e1, h1.symm⟩, fun sz' => k v F2 H2 c f g sz' h3 (fun a m => fr1 a (List.mem_cons_of_mem _ (h4 a m))) q⟩
    · rename_i ks cs d _
      obtain ⟨key, e1, e2⟩ := Option.bind_eq_some_iff.mp e
      cases cr2 with
      | im h2 =>
        cases cr1' with
        | fk t l al =>
          obtain ⟨v, f, h1, h3, h4⟩ := getK_cr al l e2
          exact .inr ⟨_, v, rfl, .inl ⟨_, key, .inl (g2.sub _ _ t), keyD_dp h2 e1, h1.symm⟩, fun sz' => k v F2 H2 c f g sz' h3 (fun a m => nomatch h4 a m) q⟩
    · rename_i ks cs ds _
      obtain ⟨key, e1, e2⟩ := Option.bind_eq_some_iff.mp e
      obtain ⟨p, vs2, rfl, t2, al2⟩ := cr2.tup
      cases cr1' with
      | dt t l al =>
        obtain ⟨v, f, h1, h3, h4⟩ := getK_cr al l e2
        have ek := keyDs_dp al2 e1
        subst ek
        exact .inr ⟨_, v, rfl, .inr ⟨_, key, p, .inl t, rfl, SqT.mono g2.sub t2, h1.symm⟩, fun sz' => k v F2 H2 c f g sz' h3 (fun a m => fr1 a (List.mem_cons_of_mem _ (h4 a m))) q⟩
    · rename_i ks cs ds _
      obtain ⟨key, e1, e2⟩ := Option.bind_eq_some_iff.mp e
      obtain ⟨p, vs2, rfl, t2, al2⟩ := cr2.tup
      cases cr1' with
      | ft t l al =>
        obtain ⟨v, f, h1, h3, h4⟩ := getK_cr al l e2
        have ek := keyDs_dp al2 e1
        subst ek
        exact .inr ⟨_, v, rfl, .inr ⟨_, key, p, .inl (g2.sub _ _ t), rfl, SqT.mono g2.sub t2, h1.symm⟩, fun sz' => k v F2 H2 c f g sz' h3 (fun a m => nomatch h4 a m) q⟩
    · cases e⟩⟩
end
end DL
set_option maxHeartbeats 1000000
namespace DL
open PySem PySem.Spec PyProof.Rows L2
section
open HT
variable {prog : Program} {w : World} {A : Around} {E : Value → Shared → Prop} {s : Shared}
theorem sliceApplied_rev {sl : Addr} {vs : Value} {n : Nat} {Q : Int × Int × Nat → Shared → Prop} (hs : s.heap.IsSliceOf sl .none .none vs) (ps : IsPart vs (some (-1)))
    (h : Q ((n : Int) - 1, -1, n) s) : wpAny (model prog w) A (Builtin.Slice.sliceApplied (.ref sl) (pure (n : Int))) Q E s := by
  obtain ⟨os, hos, hcs, hds⟩ := id hs
  unfold Builtin.Slice.sliceApplied Builtin.Slice.sliceFields
  refine wpAny_bind (wpAny_bind (wpAny_field hos hds (x := .none) rfl (wpAny_bind (wpAny_field hos hds (x := .none) rfl (wpAny_bind (wpAny_field hos hds (x := vs) rfl (wpAny_pure ?_)))))))
  refine wpAny_bind (slicePart_ ps ?_)
  show wpAny _ _ (if ((-1 : Int) == 0) = true then _ else _) _ _ s
  rw [if_neg (by decide)]
  refine wpAny_bind (slicePart_none (wpAny_bind (slicePart_none (wpAny_bind (wpAny_pure ?_)))))
  show wpAny _ _ (match Builtin.Slice.sliceAdjust none none (-1) (n : Int) with | (lo, hi) => pure (lo, (-1 : Int), Builtin.Slice.slicePlaces lo hi (-1))) _ _ s
  have e1 : Builtin.Slice.sliceAdjust none none (-1) (n : Int) = ((n : Int) - 1, -1) := rfl
  rw [e1]
  show wpAny _ _ (pure ((n : Int) - 1, (-1 : Int), Builtin.Slice.slicePlaces ((n : Int) - 1) (-1) (-1))) _ _ s
  have e2 : Builtin.Slice.slicePlaces ((n : Int) - 1) (-1) (-1) = n := by
    unfold Builtin.Slice.slicePlaces
    rw [if_neg (by decide)]
    by_cases h : (n : Int) - 1 > -1
    · rw [if_pos h]
      have e : ((n : Int) - 1 - -1 - 1) / (- -1) + 1 = (n : Int) := by
        rw [show (- -1 : Int) = 1 by decide, Int.ediv_one]
        omega
      rw [e]
      rfl
    · rw [if_neg h]
      have : n = 0 := by omega
      subst this
      rfl
  rw [e2]
  exact wpAny_pure h
theorem filterMap_cg {α β : Type} {f g : α → Option β} : ∀ {l : List α}, (∀ x ∈ l, f x = g x) → l.filterMap f = l.filterMap g
  | [], _ => rfl
  | x :: l, h => by
    rw [List.filterMap_cons, List.filterMap_cons, h x List.mem_cons_self, filterMap_cg fun y m => h y (List.mem_cons_of_mem _ m)]
theorem pick_rev (xs : Array Value) : ((List.range xs.size).filterMap fun (m : Nat) => xs[((xs.size : Int) - 1 + (m : Int) * (-1)).toNat]?).toArray = xs.toList.reverse.toArray := by
  have e : (List.range xs.size).filterMap (fun (m : Nat) => xs[((xs.size : Int) - 1 + (m : Int) * (-1)).toNat]?) = ((List.range xs.size).map fun k => xs.size - 1 - k).filterMap (xs[·]?) := by
    rw [List.filterMap_map]
    refine filterMap_cg fun m hm => ?_
    have := List.mem_range.mp hm
    show _ = xs[xs.size - 1 - m]?
    congr 1
    omega
  rw [e, PySem.W.krv_range, List.filterMap_reverse, PySem.W.krv_all]
theorem getItem_tuple_rev {t sl : Addr} {items : Array Value} {vs : Value} {Q : Value → Shared → Prop} (ht : IsTup s.heap t items) (hs : s.heap.IsSliceOf sl .none .none vs) (ps : IsPart vs (some (-1)))
    (h : Q (.ref s.heap.objs.size) { s with heap := s.heap.push { cls := .type "tuple", data := .seq items.toList.reverse.toArray } })
    (hsz : items.size ≤ sizeLine) : wpAny (model prog w) A (getItem (.ref t) (.ref sl)) Q E s := by
  have htake : sizeOk (.seq items.toList.reverse.toArray) := by
    show items.toList.reverse.toArray.size ≤ sizeLine
    rw [List.size_toArray, List.length_reverse, Array.length_toList]
    exact hsz
  obtain ⟨os, hos, hcs, hds⟩ := id hs
  have hTs : s.TypeIs (.ref sl) "slice" := ⟨os, hos, hcs⟩
  unfold getItem
  try with_reducible refine wpAny_holding ?_
  first | refine wpAny_bind (wpAny_pure ?_) | skip
  refine wpAny_bind (wpAny_sequenceKey ht.typeIs (by decide) ?_)
  refine wpAny_bind (wpAny_callSpecial?_slot (name := Str.ofString "__getitem__") ht.typeIs PyProof.Rows.slot_tuple_getitem
    (wpAny_call_entry PyProof.Rows.slot_tuple_getitem ht.typeIs entry_tuple_getitem ?_ (args_tuple_getitem _ _)))
  show wpAny _ _ (Builtin.Tuple.tupleItemsOf (.ref t) >>= _) _ _ s
  refine wpAny_bind (tupleItemsOf_ ht ?_)
  refine wpAny_bind (wpAny_typeOf hTs ?_)
  rw [if_pos (by decide)]
  refine wpAny_bind (sliceApplied_rev hs ps ?_)
  have hno : ¬ ((((items.size : Int) - 1) == 0 && (-1 : Int) == 1 && items.size == items.size) = true) := by
    intro q
    rw [Bool.and_eq_true, Bool.and_eq_true] at q
    exact absurd q.1.2 (by decide)
  show wpAny _ _ (if (((items.size : Int) - 1) == 0 && (-1 : Int) == 1 && items.size == items.size) = true then _ else _) _ _ s
  rw [if_neg hno, pick_rev]
  first
    | exact wpAny_bind (m := Builtin.Tuple.tupleExact _) (wpAny_newObj_type (wpAny_pure ⟨_, rfl, wpAny_pure h⟩) htake)
    | exact wpAny_bind (m := Builtin.Tuple.tupleExact _) (wpAny_newObj_type (wpAny_bind (wpAny_pure (wpAny_pure ⟨_, rfl, wpAny_pure h⟩))) htake)
    | exact wpAny_bind (wpAny_bind (m := Builtin.Tuple.tupleExact _) (wpAny_newObj_type (wpAny_pure (wpAny_pure ⟨_, rfl, wpAny_pure h⟩)) htake))
    | exact wpAny_bind (wpAny_bind (m := Builtin.Tuple.tupleExact _) (wpAny_newObj_type (wpAny_pure ⟨_, rfl, wpAny_pure h⟩) htake))
end
def tRevA (K : PySem.W.Frag) (te : TE) : TE := fun σ H Q => te σ H fun x H1 => ∃ a xs, x = .ref a ∧
  ((SqL K H1 a xs ∧ ∀ p, H1 p = none → Q (.ref p) (upd H1 p (.lst xs.reverse))) ∨ (SqT K H1 a xs ∧ ∀ p, H1 p = none → Q (.ref p) (upd H1 p (.tup xs.reverse))))
theorem pe_revA {X : Cx} {e : Expr} {te : TE} {k : Nat} {p1 p2 p3 pos : Pos} (he : PE X e te) : PE X (.Subscript e (.Slice none none (some (.UnaryOp .USub (.Constant (.int 1) k p1) p2)) p3) pos) (tRevA X.K te) := by
  refine ⟨fun pins s σ H Q I h => ?_⟩
  refine Subscript_ (thn (he.run pins s σ H _ I h) fun v s1 ⟨x, H1, I1, r1, q1⟩ => ?_)
  obtain ⟨a, xs, ex, hx⟩ := q1
  subst ex
  cases r1
  have hst : PO X (some (.UnaryOp .USub (.Constant (.int 1) k p1) p2)) (tPart (tUn (rU fun i => .int (-i)) (tC (.int 1)))) := po_some (pe_un un_neg pe_int)
  refine wpAny_Slice (thn (po_none.run pins s1 σ H1 (fun o H2 => o = none ∧ H2 = H1) I1 ⟨rfl, rfl⟩) fun vl s2 ⟨l, H2, I2, pl, el, e2⟩ => ?_)
  subst el e2
  refine thn (po_none.run pins s2 σ H2 (fun o H3 => o = none ∧ H3 = H2) I2 ⟨rfl, rfl⟩) fun vu s3 ⟨u, H3, I3, pu, eu, e3⟩ => ?_
  subst eu e3
  refine thn (hst.run pins s3 σ H3 (fun o H4 => o = some (-1) ∧ H4 = H3) I3 ⟨1, rfl, -1, rfl, rfl, rfl⟩) fun vs s4 ⟨o, H4, I4, ps, eo, e4⟩ => ?_
  subst eo e4
  have I5 : Inv X pins σ H4 { s4 with heap := s4.heap.push { cls := .type "slice", data := .fields #[vl, vu, vs] } } := I4.kept (t' := s4.toks) fun b ob q => Heap.get?_push_of_some _ q
  show wpAny (model X.prog X.w) X.A (subscriptTail e (.Slice none none (some (.UnaryOp .USub (.Constant (.int 1) k p1) p2)) p3) (.ref a) (.ref s4.heap.objs.size)) (EP X pins σ Q) X.xe { s4 with heap := s4.heap.push { cls := .type "slice", data := .fields #[vl, vu, vs] } }
  rcases hx with ⟨hx, q⟩ | ⟨hx, q⟩
  · obtain ⟨its, r, ht, hz⟩ := I5.list hx
    have hlen := r.length
    refine tail_any (ops := [.ref a, .ref s4.heap.objs.size]) ht.isList.typeIs (PySem.slot_list_getitem.lookup) ?_ (by with_unfolding_all rfl)
    refine wpAny_getItem_list_slice ht.isList (Heap.IsSliceOf.new _ vl vu vs) pl pu ps (by decide) ?_ (by rw [List.size_toArray]; omega)
    rw [PySem.W.krv_pick]
    refine ⟨.ref _, _, I5.laid (t' := s4.toks) (o := .lst xs.reverse) (fun b ob q => Heap.get?_push_of_some _ q) (Nat.le_refl _) ?_, rfl, q _ (I5.hok.fresh (Nat.le_refl _))⟩
    exact ⟨by rw [List.length_reverse]; exact hz, _, 0, r.reverse, Heap.get?_push_size _ rfl⟩
  · obtain ⟨its, r, ht, hz⟩ := I5.tuple hx
    have hlen := r.length
    refine tail_any (ops := [.ref a, .ref s4.heap.objs.size]) ht.typeIs (PyProof.Rows.slot_tuple_getitem.lookup) ?_ (by with_unfolding_all rfl)
    cases pl
    cases pu
    refine getItem_tuple_rev ht (Heap.IsSliceOf.new _ _ _ vs) ps ?_ (by rw [List.size_toArray]; omega)
    refine ⟨.ref _, _, I5.laid (t' := s4.toks) (o := .tup xs.reverse) (fun b ob q => Heap.get?_push_of_some _ q) (Nat.le_refl _) ?_, rfl, q _ (I5.hok.fresh (Nat.le_refl _))⟩
    exact ⟨by rw [List.length_reverse]; exact hz, _, r.reverse, IsTup.new _ _⟩
def cut {α : Type} (xs : List α) (lo hi : Option Int) : List α := (xs.drop (HT.sIx xs.length 0 lo)).take (HT.sIx xs.length xs.length hi - HT.sIx xs.length 0 lo)
theorem cut_dp {K : PySem.W.Frag} {H : Hp} {vs : List V} {ds : List D} (h : DpAll K H vs ds) (lo hi : Option Int) : DpAll K H (cutV vs lo hi) (cut ds lo hi) := by
  unfold cutV cut
  rw [DpAll.length h]
  exact DpAll.take _ (DpAll.drop _ h)
abbrev XO := List Cell → (Option Int → Prop) → Prop
def liftO (K : PySem.W.Frag) (B : Bs) (T : XO) : TO := fun σ H Q => ∃ γ F Q', Rel K B γ F H σ ∧ T γ Q' ∧ ∀ o F' H', Go B F H F' H' → Q' o → Q o H'
def DO (X : Cx) (B : Bs) (e : Option Expr) (T : XO) : Prop := PO X e (liftO X.K B T)
@[simp] def xNoPart : XO := fun _ K => K none
@[simp] def xPart (T : XE) : XO := fun γ K => T γ fun c => ∃ i, c = .im (.int i) ∧ K (some i)
section
variable {X : Cx} {B : Bs} {e a b : Expr} {lo hi : Option Expr} {T Ta : XE} {Tl Th : XO} {U : XA} {pos p2 : Pos}
theorem po_imp {e : Option Expr} {t t' : TO} (h : PO X e t) (k : ∀ σ H Q, t' σ H Q → t σ H Q) : PO X e t' := ⟨fun pins s σ H Q I h' => h.run pins s σ H _ I (k _ _ _ h')⟩
theorem do_none : DO X B none xNoPart := po_imp po_none fun σ H Q ⟨γ, F, Q', R, hT, k⟩ => k none F H R.refl hT
theorem do_some (h : DR X B e T) : DO X B (some e) (xPart T) := po_imp (po_some h) fun σ H Q ⟨γ, F, Q', R, hT, k⟩ => ⟨γ, F, _, R, hT, fun v F1 H1 c f g sz cr fr ⟨i, e, q⟩ => by
  subst e
  rw [cr.int]
  exact ⟨i, rfl, k (some i) F1 H1 g q⟩⟩
/-- a tuple's, or a list's, part -/
def slC : Cell → Option (List D × Bool)
  | .im (.tuple ds) => some (ds, true)
  | c => (lstF c).map fun ds => (ds, false)
@[simp] def mkSq (t : Bool) (ds : List D) : Cell := if t = true then .im (.tuple ds) else .ow (ds.map .im)
@[simp] def xSl (Ta : XE) (Tl Th : XO) : XE := fun γ K => Ta γ fun c => Tl γ fun l => Th γ fun u => ∃ ds t, slC c = some (ds, t) ∧ K (mkSq t (cut ds l u))
theorem slC_cases {c : Cell} {ds : List D} {t : Bool} (h : slC c = some (ds, t)) : (c = .im (.tuple ds) ∧ t = true) ∨ (lstF c = some ds ∧ t = false) := by
  unfold slC at h
  split at h
  · injection h with h; injection h with h1 h2; subst h1 h2; exact .inl ⟨rfl, rfl⟩
  · obtain ⟨es, h1, h2⟩ := Option.map_eq_some_iff.mp h
    injection h2 with h2 h3; subst h2 h3
    exact .inr ⟨h1, rfl⟩
theorem de_sl (ha : DR X B a Ta) (hl : DO X B lo Tl) (hu : DO X B hi Th) : DE X B (.Subscript a (.Slice lo hi none p2) pos) (xSl Ta Tl Th) :=
  pe_imp (pe_slice (sl_list.or sl_tupA) ha hl hu) fun σ H Q ⟨γ, F, Q', R, hT, k⟩ _ => ⟨γ, F, _, R, hT, fun x F1 H1 c f g1 sz cr fr q => ⟨γ, F1, _, R.step g1, q, fun l F2 H2 g2 q2 => ⟨γ, F2, _, (R.step g1).step g2, q2, fun u F3 H3 g3 q3 => by
    have gk : Gives X.K B F H Q' Q := k
    have g23 := g2.trans g3
    have g := g1.trans g23
    obtain ⟨ds, t, e, q3⟩ := q3
    have cr' : CR X.K B.dd F3 H3 x c f := cr.mono g23.ff fun a m o e => g23.hh a o (fr a m) e
    rcases slC_cases e with ⟨e1, e2⟩ | ⟨e1, e2⟩
    · subst e1 e2
      obtain ⟨p, vs, rfl, tt, al⟩ := cr'.tup
      have q4 : Q' (.im (.tuple (cut ds l u))) := q3
      refine .inr ⟨p, vs, rfl, SqT.mono g3.sub tt, fun hw => ?_, fun hw p np => (gk.from g).tup g3.sub g3.dk (cut_dp al l u) q4 np⟩
      have ec : cut ds l u = ds := by
        unfold cut
        rw [← DpAll.length al, hw.1, hw.2, List.drop_zero, Nat.sub_zero, DpAll.length al, List.take_length]
      rw [ec] at q4
      exact (gk.from g).data g3.sub g3.dk (.tup tt al) q4
    · subst e2
      obtain ⟨p, vs, rfl, tt, al⟩ := cr'.frl g3.sub e1
      exact .inl ⟨p, vs, rfl, sq_of g3.sub tt, fun p np => (gk.from g).lstD g3.sub g3.dk (cut_dp al l u) q3 np⟩⟩⟩⟩
@[simp] def xRev (Ta : XE) : XE := fun γ K => Ta γ fun c => ∃ ds t, slC c = some (ds, t) ∧ K (mkSq t ds.reverse)
theorem de_rev {k : Nat} {p1 q1 p3 : Pos} (ha : DR X B a Ta) : DE X B (.Subscript a (.Slice none none (some (.UnaryOp .USub (.Constant (.int 1) k p1) q1)) p3) pos) (xRev Ta) :=
  pe_imp (pe_revA ha) fun σ H Q ⟨γ, F, Q', R, hT, kk⟩ _ => ⟨γ, F, _, R, hT, fun x F1 H1 c f g1 sz cr fr ⟨ds, t, e, q⟩ => by
    have gk : Gives X.K B F H Q' Q := kk
    rcases slC_cases e with ⟨e1, e2⟩ | ⟨e1, e2⟩
    · subst e1 e2
      obtain ⟨p, vs, rfl, tt, al⟩ := cr.tup
      exact ⟨p, vs, rfl, .inr ⟨SqT.mono g1.sub tt, fun p np => (gk.from g1).tup g1.sub g1.dk (DpAll.rev al) q np⟩⟩
    · subst e2
      obtain ⟨p, vs, rfl, tt, al⟩ := cr.frl g1.sub e1
      exact ⟨p, vs, rfl, .inl ⟨sq_of g1.sub tt, fun p np => (gk.from g1).lstD g1.sub g1.dk (DpAll.rev al) q np⟩⟩⟩
/-- a rule by values, told by cells -/
def RAOk (K : PySem.W.Frag) (B : Bs) (r : List V → Hp → VK → Prop) (R : List Cell → (Cell → Prop) → Prop) : Prop :=
  ∀ F H vs cs fp K' Q, Same F H → DeckOk B H → SzH K H → CRs K B.dd F H vs cs fp → (∀ a ∈ fp, a ∉ B.ms) → R cs K' → Gives K B F H K' Q → r vs H (fun v H' => SzH K H' → Q v H')
@[simp] def xCB (R : List Cell → (Cell → Prop) → Prop) (U : XA) : XE := fun γ K => U γ fun cs => R cs K
variable {x : Str} {p : Pos} {es : List Expr} {id Ty : String} {r : List V → Hp → VK → Prop} {R : List Cell → (Cell → Prop) → Prop}
/-- what holds of the heap is known behind the arguments, too -/
theorem pa_sz {t : TA} (h : PA X es t) : PA X es (fun σ H Q => t σ H fun vs H' => SzH X.K H' → Q vs H') :=
  ⟨fun pos pins s σ H Q I h' => thn (h.run pos pins s σ H _ I h') fun u s1 ⟨v, H', I', r, q⟩ => ⟨v, H', I', r, q (inv_sz I')⟩⟩
theorem cb_core {σ : L2.St} {H : Hp} {Q : VK} (ok : RAOk X.K B r R) (h : liftE X.K B (xCB R U) σ H Q) : liftB X.K B U σ H fun vs H1 => SzH X.K H1 → r vs H1 fun v H' => SzH X.K H' → Q v H' := by
  obtain ⟨γ, F, Q', Rl, hT, k⟩ := h
  have gk : Gives X.K B F H Q' Q := k
  exact ⟨γ, F, _, Rl, hT, fun vs F1 H1 cs fp g1 crs fr q sz => ok F1 H1 vs cs fp Q' Q g1.sub g1.dk sz crs fr q (gk.from g1)⟩
theorem de_cb {t : Expr} (ok : RAOk X.K B r R) (h : PE X t (tCB r (fun σ H Q => liftB X.K B U σ H fun vs H' => SzH X.K H' → Q vs H'))) : DE X B t (xCB R U) :=
  pe_imp h fun σ H Q h' _ => cb_core ok h'
end
section
variable {K : PySem.W.Frag} {B : Bs}
def lenC : Cell → Option Nat
  | .im (.tuple ds) => some ds.length
  | .im (.list ds) => some ds.length
  | .ow cs => some cs.length
  | _ => none
@[simp] def cLen : List Cell → (Cell → Prop) → Prop := fun cs Q => ∃ c n, cs = [c] ∧ lenC c = some n ∧ Q (.im (.int n))
theorem crs_one {da : Option Addr} {F H : Hp} {vs : List V} {c : Cell} {fp : List Addr} (h : CRs K da F H vs [c] fp) : ∃ v, vs = [v] ∧ CR K da F H v c fp := by
  cases h with
  | cons h hs => cases hs; exact ⟨_, rfl, by rwa [List.append_nil]⟩
theorem crs_two {da : Option Addr} {F H : Hp} {vs : List V} {c d : Cell} {fp : List Addr} (h : CRs K da F H vs [c, d] fp) : ∃ v w f g, vs = [v, w] ∧ CR K da F H v c f ∧ CR K da F H w d g := by
  cases h with
  | cons h hs => cases hs with
    | cons h2 hs => cases hs; exact ⟨_, _, _, _, rfl, h, h2⟩
theorem lenC_ok {da : Option Addr} {F H : Hp} {v : V} {c : Cell} {fp : List Addr} {n : Nat} (s : Same F H) (h : CR K da F H v c fp) (e : lenC c = some n) : LenV K v H n := by
  cases h with
  | im h =>
    cases h with
    | lst h1 h2 =>
      simp only [lenC, Option.some.injEq] at e
      exact .inl ⟨_, s.seq h1, by rw [DpAll.length h2]; exact e.symm⟩
    | tup h1 h2 =>
      simp only [lenC, Option.some.injEq] at e
      exact .inr ⟨_, SqT.mono s h1, by rw [DpAll.length h2]; exact e.symm⟩
    | _ => simp [lenC] at e
  | ow h hs =>
    simp only [lenC, Option.some.injEq] at e
    exact .inl ⟨_, .inl (.inl h), by rw [hs.length]; exact e.symm⟩
  | _ => simp [lenC] at e
theorem ok_len : RAOk K B (fun xs H Q => ∃ x n, xs = [x] ∧ LenV K x H n ∧ Q (.int n) H) cLen := fun F H vs cs fp K' Q s d sz crs fr ⟨c, n, e, e2, q⟩ g => by
  subst e
  obtain ⟨v, rfl, h⟩ := crs_one crs
  exact ⟨v, n, rfl, lenC_ok s h e2, g.data s d (.int _) q⟩
/-- tuple(x), list(x) -/
def seqF : Cell → Option (List D)
  | .im (.tuple ds) => some ds
  | c => lstF c
@[simp] def cTup : List Cell → (Cell → Prop) → Prop := fun cs Q => ∃ c ds, cs = [c] ∧ seqF c = some ds ∧ Q (.im (.tuple ds))
@[simp] def cLst : List Cell → (Cell → Prop) → Prop := fun cs Q => ∃ c ds, cs = [c] ∧ seqF c = some ds ∧ Q (.ow (ds.map .im))
theorem seqF_cases {c : Cell} {ds : List D} (h : seqF c = some ds) : c = .im (.tuple ds) ∨ lstF c = some ds := by
  unfold seqF at h
  split at h
  · injection h with h; subst h; exact .inl rfl
  · exact .inr h
theorem ok_tup : RAOk K B (fun xs H Q => ∃ p ys, xs = [V.ref p] ∧ ((SqL K H p ys ∧ ∀ (l : Addr), H l = none → Q (V.ref l) (upd H l (HO.tup ys))) ∨ SqT K H p ys ∧ Q (V.ref p) H)) cTup := fun F H vs cs fp K' Q s d sz crs fr ⟨c, ds, e, e2, q⟩ g => by
  subst e
  obtain ⟨v, rfl, h⟩ := crs_one crs
  rcases seqF_cases e2 with e3 | e3
  · subst e3
    obtain ⟨a, vs, rfl, t, al⟩ := h.tup
    exact ⟨a, vs, rfl, .inr ⟨SqT.mono s t, g.data s d (.tup t al) q⟩⟩
  · obtain ⟨a, vs, rfl, t, al⟩ := h.frl s e3
    exact ⟨a, vs, rfl, .inl ⟨sq_of s t, fun p np => g.tup s d al q np⟩⟩
theorem ok_lst : RAOk K B (fun xs H Q => ∃ p ys, xs = [V.ref p] ∧ (SqL K H p ys ∨ SqT K H p ys) ∧ ∀ (l : Addr), H l = none → Q (V.ref l) (upd H l (HO.lst ys))) cLst := fun F H vs cs fp K' Q s d sz crs fr ⟨c, ds, e, e2, q⟩ g => by
  subst e
  obtain ⟨v, rfl, h⟩ := crs_one crs
  rcases seqF_cases e2 with e3 | e3
  · subst e3
    obtain ⟨a, vs, rfl, t, al⟩ := h.tup
    exact ⟨a, vs, rfl, .inr (SqT.mono s t), fun p np => g.lstD s d al q np⟩
  · obtain ⟨a, vs, rfl, t, al⟩ := h.frl s e3
    exact ⟨a, vs, rfl, .inl (sq_of s t), fun p np => g.lstD s d al q np⟩
/-- all, any of lists of bools; sum, min, max of lists of ints -/
@[simp] def cAll : List Cell → (Cell → Prop) → Prop := fun cs Q => ∃ (c : Cell) (bs : List Bool), cs = [c] ∧ lstF c = some (bs.map PyData.bool) ∧ Q (.im (.bool (bs.all id)))
@[simp] def cAny : List Cell → (Cell → Prop) → Prop := fun cs Q => ∃ (c : Cell) (bs : List Bool), cs = [c] ∧ lstF c = some (bs.map PyData.bool) ∧ Q (.im (.bool (bs.any id)))
@[simp] def cSum : List Cell → (Cell → Prop) → Prop := fun cs Q => ∃ (c : Cell) (ns : List Int), cs = [c] ∧ lstF c = some (ns.map PyData.int) ∧ Q (.im (.int ns.sum))
def cMinL : List Cell → (Cell → Prop) → Prop := fun cs Q => ∃ (c : Cell) (ns : List Int), cs = [c] ∧ lstF c = some (ns.map PyData.int) ∧ 0 < ns.length ∧ ∀ m, m ∈ ns → (∀ y, y ∈ ns → m ≤ y) → Q (.im (.int m))
def cMaxL : List Cell → (Cell → Prop) → Prop := fun cs Q => ∃ (c : Cell) (ns : List Int), cs = [c] ∧ lstF c = some (ns.map PyData.int) ∧ 0 < ns.length ∧ ∀ m, m ∈ ns → (∀ y, y ∈ ns → y ≤ m) → Q (.im (.int m))
theorem ok_all : RAOk K B (rAll K) cAll := fun F H vs cs fp K' Q s d sz crs fr ⟨c, bs, e, e2, q⟩ g => by
  subst e
  obtain ⟨v, rfl, h⟩ := crs_one crs
  obtain ⟨a, vs, rfl, t, al⟩ := h.frl s e2
  have e := DpAll.bls al
  subst e
  exact ⟨a, bs, rfl, sq_of s t, g.data s d (.bl _) q⟩
theorem ok_any : RAOk K B (rAny K) cAny := fun F H vs cs fp K' Q s d sz crs fr ⟨c, bs, e, e2, q⟩ g => by
  subst e
  obtain ⟨v, rfl, h⟩ := crs_one crs
  obtain ⟨a, vs, rfl, t, al⟩ := h.frl s e2
  have e := DpAll.bls al
  subst e
  exact ⟨a, bs, rfl, sq_of s t, g.data s d (.bl _) q⟩
theorem ok_sum : RAOk K B (rSum K) cSum := fun F H vs cs fp K' Q s d sz crs fr ⟨c, bs, e, e2, q⟩ g => by
  subst e
  obtain ⟨v, rfl, h⟩ := crs_one crs
  obtain ⟨a, vs, rfl, t, al⟩ := h.frl s e2
  have e := DpAll.ints al
  subst e
  exact ⟨a, bs, rfl, sq_of s t, g.data s d (.int _) q⟩
theorem ok_minL : RAOk K B (rMin K) cMinL := fun F H vs cs fp K' Q s d sz crs fr ⟨c, bs, e, e2, hl, q⟩ g => by
  subst e
  obtain ⟨v, rfl, h⟩ := crs_one crs
  obtain ⟨a, vs, rfl, t, al⟩ := h.frl s e2
  have e := DpAll.ints al
  subst e
  exact ⟨a, bs, rfl, sq_of s t, hl, fun m h1 h2 => g.data s d (.int _) (q m h1 h2)⟩
theorem ok_maxL : RAOk K B (rMax K) cMaxL := fun F H vs cs fp K' Q s d sz crs fr ⟨c, bs, e, e2, hl, q⟩ g => by
  subst e
  obtain ⟨v, rfl, h⟩ := crs_one crs
  obtain ⟨a, vs, rfl, t, al⟩ := h.frl s e2
  have e := DpAll.ints al
  subst e
  exact ⟨a, bs, rfl, sq_of s t, hl, fun m h1 h2 => g.data s d (.int _) (q m h1 h2)⟩
@[simp] def cInt : List Cell → (Cell → Prop) → Prop := fun cs Q => (∃ i, cs = [.im (.int i)] ∧ Q (.im (.int i))) ∨ ∃ k, cs = [.im (.bool k)] ∧ Q (.im (.int (if k then 1 else 0)))
theorem ok_int : RAOk K B (fun xs H Q => (∃ i, xs = [.int i] ∧ Q (.int i) H) ∨ ∃ k, xs = [.bl k] ∧ Q (.int (if k then 1 else 0)) H) cInt := fun F H vs cs fp K' Q s d sz crs fr h g => by
  rcases h with ⟨i, e, q⟩ | ⟨i, e, q⟩
  · subst e
    obtain ⟨v, rfl, h⟩ := crs_one crs
    rw [h.int]
    exact .inl ⟨i, rfl, g.data s d (.int _) q⟩
  · subst e
    obtain ⟨v, rfl, h⟩ := crs_one crs
    rw [h.bl]
    exact .inr ⟨i, rfl, g.data s d (.int _) q⟩
@[simp] def cMax2 : List Cell → (Cell → Prop) → Prop := fun cs Q => ∃ i j, cs = [.im (.int i), .im (.int j)] ∧ Q (.im (.int (if j > i then j else i)))
@[simp] def cMin2 : List Cell → (Cell → Prop) → Prop := fun cs Q => ∃ i j, cs = [.im (.int i), .im (.int j)] ∧ Q (.im (.int (if j < i then j else i)))
theorem ok_max2 : RAOk K B (fun xs H Q => ∃ i j, xs = [.int i, .int j] ∧ Q (.int (if j > i then j else i)) H) cMax2 := fun F H vs cs fp K' Q s d sz crs fr ⟨i, j, e, q⟩ g => by
  subst e
  obtain ⟨v, w, f1, f2, rfl, h1, h2⟩ := crs_two crs
  rw [h1.int, h2.int]
  exact ⟨i, j, rfl, g.data s d (.int _) q⟩
theorem ok_min2 : RAOk K B (fun xs H Q => ∃ i j, xs = [.int i, .int j] ∧ Q (.int (if j < i then j else i)) H) cMin2 := fun F H vs cs fp K' Q s d sz crs fr ⟨i, j, e, q⟩ g => by
  subst e
  obtain ⟨v, w, f1, f2, rfl, h1, h2⟩ := crs_two crs
  rw [h1.int, h2.int]
  exact ⟨i, j, rfl, g.data s d (.int _) q⟩
end
def tyC : Cell → Option String
  | .im .none => some "NoneType"
  | .im (.bool _) => some "bool"
  | .im (.int _) => some "int"
  | .im (.str _) => some "str"
  | .im (.tuple _) => some "tuple"
  | .im (.list _) => some "list"
  | .ow _ => some "list"
  | _ => none
theorem tyC_ok {K : PySem.W.Frag} {da : Option Addr} {F H : Hp} {v : V} {c : Cell} {fp : List Addr} {T : String} (s : Same F H) (h : CR K da F H v c fp) (e : tyC c = some T) : TyX K H v (.type T) := by
  cases h with
  | im h =>
    cases h with
    | non => simp [tyC] at e; subst e; exact .base .non
    | bl b => simp [tyC] at e; subst e; exact .base (.bl b)
    | int b => simp [tyC] at e; subst e; exact .base (.int b)
    | str b => simp [tyC] at e; subst e; exact .base (.str b)
    | lst h1 h2 =>
      simp [tyC] at e; subst e
      rcases h1 with (h1 | ⟨o, h1⟩) | ⟨o, its, n, h1, h3, _⟩
      · exact .base (.lst (s _ _ h1))
      · exact .base (.frz (s _ _ h1))
      · exact .kList h1 h3
    | tup h1 h2 =>
      simp [tyC] at e; subst e
      rcases h1 with (h1 | ⟨o, h1⟩) | ⟨o, its, n, h1, h3, _⟩
      · exact .base (.tup (s _ _ h1))
      · exact .fTuple (s _ _ h1)
      · exact .kTuple h1 h3
  | ow h hs => simp [tyC] at e; subst e; exact .base (.lst h)
  | _ => simp [tyC] at e
@[simp] def xIsi (T : XE) (t : String) : XE := fun γ K => T γ fun c => ∃ s b, tyC c = some s ∧ kitB s t = some b ∧ K (.im (.bool b))
theorem de_isi {X : Cx} {B : Bs} {a : Expr} {Ta : XE} {ty : String} {pos p p2 : Pos} (hg : Gl X "isinstance") (hm : X.mg "isinstance" = none) (hg2 : Gl X ty) (hm2 : X.mg ty = none) (hv2 : bootBuiltins (Str.ofString ty) = some (.type ty)) (hn2 : Str.ofString ty ≠ "__name__") (hd2 : (Str.ofString ty == ("__debug__" : Str)) = false)
    (ha : DR X B a Ta) (hs1 : starEach [a, .Name (Str.ofString ty) p2] X.env = (false, eval a X.env) :: starEach [.Name (Str.ofString ty) p2] X.env := by rfl) (hs2 : starEach [.Name (Str.ofString ty) p2] X.env = (false, eval (.Name (Str.ofString ty) p2) X.env) :: starEach [] X.env := by rfl)
    (hpl : (backTo pos (starEach [.Name (Str.ofString ty) p2] X.env)).any (·.1) = false := by rfl) : DE X B (.Call (.Name "isinstance" p) [a, .Name (Str.ofString ty) p2] [] pos) (xIsi Ta ty) := by
  have hT : PE X (.Name (Str.ofString ty) p2) (tC (.ty ty)) := pe_bltn hg2 hm2 hv2 rfl hn2 hd2
  refine pe_imp (pe_callB call_isi hg hm (by decide +kernel) (pa_cons ha (pa_cons hT pa_nil hs2) hs1) (by decide) (by decide) hs1 hpl) fun σ H Q ⟨γ, F, Q', R, hT, k⟩ _ => ⟨γ, F, _, R, hT, fun v F1 H1 c f g1 sz cr fr ⟨s, b, e1, e2, q⟩ => ?_⟩
  exact ⟨v, .ty ty, .type s, .type ty, b, rfl, .ty ty, tyC_ok g1.sub cr e1, kit_ty e2, fun sz' => k (.bl b) F1 H1 _ [] g1 sz' (.im (.bl b)) List.nodup_nil (fun _ m => nomatch m) q⟩
end DL
set_option maxHeartbeats 1000000
namespace DL
open PySem PySem.Spec PyProof.Rows L2
def SqB (b : Bool) (K : PySem.W.Frag) (H : Hp) (a : Addr) (xs : List V) : Prop := if b = true then SqT K H a xs else SqL K H a xs
def SeqB (b : Bool) (h : Heap) (a : Addr) (items : Array Value) : Prop := if b = true then h.IsTuple a items else h.IsList a items
def IterB (b : Bool) (h : Heap) (it a : Addr) (i : Nat) : Prop := if b = true then h.IsTupleIter it a i else h.IsListIter it a i
def iterO (b : Bool) (a : Addr) : Obj := if b = true then { cls := .type "tuple_iterator", data := .fields #[.ref a, .int 0 0] } else { cls := .type "list_iterator", data := .fields #[.ref a, .int 0 0] }
theorem SqB.mono {b : Bool} {K : PySem.W.Frag} {H H' : Hp} {a : Addr} {xs : List V} (e : Same H H') (h : SqB b K H a xs) : SqB b K H' a xs := by
  cases b with
  | true => exact SqT.mono e h
  | false => exact e.seq h
theorem inv_seqB {b : Bool} {X : Cx} {pins : List (Addr × Obj)} {σ : L2.St} {H : Hp} {s : Shared} {a : Addr} {xs : List V} (I : Inv X pins σ H s) (h : SqB b X.K H a xs) : ∃ its : List Value, Vals xs its ∧ SeqB b s.heap a its.toArray ∧ a < s.heap.objs.size := by
  cases b with
  | true =>
    obtain ⟨its, r, p, _⟩ := I.tuple h
    exact ⟨its, r, p, p.lt⟩
  | false =>
    obtain ⟨its, r, p, _⟩ := I.list h
    exact ⟨its, r, p.isList, p.lt⟩
theorem inv_injB {b : Bool} {X : Cx} {pins : List (Addr × Obj)} {σ : L2.St} {H : Hp} {s : Shared} {a : Addr} {xs ys : List V} (I : Inv X pins σ H s) (h : SqB b X.K H a xs) (h' : SqB b X.K H a ys) : xs = ys := by
  cases b with
  | true => exact I.tuple_inj h h'
  | false => exact I.list_inj h h'
theorem draws_B {prog : Program} {w : World} {A : Around} (hh : A.handled = none) (b : Bool) (it l : Addr) (hne : l ≠ it) (items : Array Value) :
    Draws prog w A it [it, l] items.size (fun i v => items[i]? = some v) (fun i h => IterB b h it l i ∧ SeqB b h l items) := by
  cases b with
  | true => exact Draws.tuple hh it l hne items
  | false => exact Draws.list hh it l hne items
theorem begins_B (b : Bool) (a : Addr) (items : Array Value) : Begins (.ref a) (iterO b a) fun h => SeqB b h a items := by
  cases b with
  | true => exact begins_tuple a items
  | false => exact begins_list a items
theorem iterB_mk {b : Bool} {h : Heap} {it a : Addr} (e : h.get? it = some (iterO b a)) : IterB b h it a 0 := by
  cases b with
  | true => exact ⟨_, e, rfl, rfl⟩
  | false => exact ⟨_, e, rfl, rfl⟩
theorem IterB.obj {b : Bool} {h : Heap} {it a : Addr} {i : Nat} (st : IterB b h it a i) : ∃ o, h.get? it = some o ∧ ∀ v, o.data ≠ .cell v := by
  cases b with
  | true =>
    obtain ⟨o, e, c, d⟩ := st
    exact ⟨o, e, fun v z => by rw [d] at z; cases z⟩
  | false =>
    obtain ⟨o, e, c, d⟩ := st
    exact ⟨o, e, fun v z => by rw [d] at z; cases z⟩
theorem IterB.keep {b : Bool} {h h' : Heap} {it a : Addr} {i : Nat} (st : IterB b h it a i) (k : ∀ o, h.get? it = some o → h'.get? it = some o) : IterB b h' it a i := by
  cases b with
  | true => exact Heap.IsTupleIter.at st k
  | false => exact Heap.IsListIter.at st k
def IteB (b : Bool) (K : PySem.W.Frag) (a : Addr) : It :=
  ⟨fun i H => ∃ (xs : List V) (x : V), SqB b K H a xs ∧ xs[i]? = some x, fun i H v H' => ∃ T x, v = .ref T ∧ H T = none ∧ H' = upd H T (.tup [.int (i : Nat), x]) ∧ ∀ xs, SqB b K H a xs → xs[i]? = some x, fun i H => ∃ xs : List V, SqB b K H a xs ∧ xs.length = i⟩
theorem turn_enumB {P : Program} {w : World} {K : PySem.W.Frag} {elts : List Expr} {kk : Nat} {tpos : Pos} (b : Bool) (a e it : Addr) (hae : a ≠ e) (hai : a ≠ it) :
    Turn P w K (.Tuple elts kk tpos) (IteB b K a) [e, it] e (fun i h => (∃ old, IsEnum h e it ((i : Nat) : Int) old) ∧ IterB b h it a i ∧ e ≠ it) where
  mem := by simp
  obj := fun i h st c hb => by
    obtain ⟨⟨old, he⟩, hi, _⟩ := st
    have e' : c = e ∨ c = it := by simpa using hb
    rcases e' with z | z
    · rw [z]; exact ⟨_, he, fun v q => nomatch q⟩
    · rw [z]; exact hi.obj
  keep := fun i h h' st k => let ⟨⟨old, he⟩, hi, hne⟩ := st; ⟨⟨old, k e (by simp) _ he⟩, hi.keep fun o q => k it (by simp) o q, hne⟩
  item := by
    intro X hP hw hK hc i pins s σ H E I hf st hg
    subst hP hw hK
    obtain ⟨⟨old, he⟩, hit, hne⟩ := st
    obtain ⟨xs, x, hq, hx⟩ := hg
    obtain ⟨its, rv, p, hal⟩ := inv_seqB I hq
    obtain ⟨u, hu, ru⟩ := rv.get hx
    have hel : e < s.heap.objs.size := Heap.lt_size he
    have hil : it < s.heap.objs.size := by obtain ⟨_, q, _⟩ := hit.obj; exact Heap.lt_size q
    have hii : i < its.toArray.size := by
      obtain ⟨z, _⟩ := List.getElem?_eq_some_iff.mp hu
      simpa using z
    refine wpAny_pyNext_enum_itemC (draws_B (show X.A.in1.handled = none from I.ok.hd hc) b it a hai its.toArray) he ⟨hit, p⟩ hii hne (by simp; exact ⟨hne, fun z => hae z.symm⟩) fun x' h' tk hpx ho hst' hT hsz hk => ?_
    have ex : x' = u := by
      have z : its.toArray[i]? = some u := by simpa using hu
      rw [z] at hpx
      exact (Option.some.inj hpx).symm
    subst ex
    refine ⟨_, rfl, wpAny_letOwnedTupleGo_enum (s := { s with heap := h', toks := tk + 1 }) ho fun h'' he' sb => ?_⟩
    have hT2 : h''.get? s.heap.objs.size = some { cls := .type "tuple", data := .seq #[.int i tk, x'] } := (sb.2 _ (Nat.ne_of_gt hel)).trans hT
    have new : ObjOk X.prog X.w (upd H s.heap.objs.size (.tup [.int (i : Nat), x])) h'' s.heap.objs.size (.tup [.int (i : Nat), x]) :=
      ⟨by show 2 ≤ sizeLine; decide, [.int i tk, x'], .cons ⟨_, rfl⟩ (.cons ru .nil), ⟨_, hT2, rfl, _, rfl⟩⟩
    have I1 : Inv X pins σ (upd H s.heap.objs.size (.tup [.int (i : Nat), x])) { s with heap := h'', toks := tk + 1 } :=
      I.turnedNew (ch := [e, it]) (fun c ob hb q => (sb.2 c (fun z => hb (by simp [z]))).trans (hk c ob (fun z => hb (by simp [z])) (fun z => hb (by simp [z])) q)) hf (Nat.le_refl _) new
    refine ⟨.ref s.heap.objs.size, _, I1, rfl, ⟨_, x, rfl, I.hok.fresh (Nat.le_refl _), rfl, fun ys hy => by rw [inv_injB I hy hq]; exact hx⟩, ⟨⟨x', ?_⟩, hst'.1.keep fun o q => (sb.2 it (Ne.symm hne)).trans q, hne⟩, fun c hb => ?_⟩
    · have e1 : ((i + 1 : Nat) : Int) = (i : Int) + 1 := by omega
      rw [e1]; exact he'
    · have hb' : c < s.heap.objs.size := by
        have e' : c = e ∨ c = it := by simpa using hb
        rcases e' with z | z
        · rw [z]; exact hel
        · rw [z]; exact hil
      rw [upd_ne (Nat.ne_of_lt hb')]
      exact (hf c hb).1
  done := by
    intro X hP hw hK hc i pins s σ H E I hf st hg
    subst hP hw hK
    obtain ⟨⟨old, he⟩, hit, hne⟩ := st
    obtain ⟨xs, hq, hx⟩ := hg
    obtain ⟨its, rv, p, hal⟩ := inv_seqB I hq
    have hl := rv.length
    have hei : i = its.toArray.size := by simp; omega
    subst hei
    have W := WalksT.enumFrom (prog := X.prog) (w := X.w) 0 (draws_B (show X.A.in1.handled = none from I.ok.hd hc) b it a hai its.toArray) e hne (by simp; exact ⟨hne, fun z => hae z.symm⟩) (by simp)
    refine W.done s _ _ ⟨⟨old, ?_⟩, ⟨hit, p⟩⟩ fun h' tk hk => ⟨rfl, ?_⟩
    · rw [Int.zero_add]; exact he
    · exact I.turnedL (ch := [e, it]) (fun c o hb q => hk c o hb q) hf
  self := fun A i s Q E st h => let ⟨⟨_, he⟩, _⟩ := st; wpAny_pyIter_enum he h
set_option maxHeartbeats 1000000 in
theorem meets_enumerate_new1 {v : Value} {o : Obj} {H : Heap → Prop} (B : Begins v o H) :
    Meets (Builtin.«enumerate.__new__» ⟨[.type "enumerate", v], []⟩) (fun _ R s => H s.heap ∧
      R (.ok (.ret (.ref (s.heap.push o).objs.size))) { s with heap := (s.heap.push o).push { cls := .type "enumerate", data := .fields #[.none, .bool false, .ref s.heap.objs.size, rawInt 0, .none, .none] } }) :=
  .of_wp fun prog w A R s h => by
    obtain ⟨hp, g, d, tk, os⟩ := s; obtain ⟨h1, h⟩ := h
    have hsub := sub_enumerate
    have q1 : ∀ {A' : Around} {E : Value → Shared → Prop} {Q : Value → Shared → Prop}, Q (.ref hp.objs.size) ⟨hp.push o, g, d, tk, os⟩ → wpAny (model prog w) A' (pyIter v) Q E ⟨hp, g, d, tk, os⟩ :=
      fun q => B.iter prog w _ _ ⟨hp, g, d, tk, os⟩ _ h1 q
    wp_walk using q1
    refine wpAny_stack_any fun st => wpAny_pure ?_
    split
    · rename_i c _ _ _ _ _
      cases (c == Value.type "enumerate")
      · wp_walk using q1
        exact ⟨_, rfl, h⟩
      · wp_walk using q1
        exact ⟨_, rfl, h⟩
    · wp_walk using q1
      exact ⟨_, rfl, h⟩
theorem enum_begins1 {prog : Program} {w : World} {A : Around} {E : Value → Shared → Prop} {s : Shared} {v : Value} {o : Obj} {H : Heap → Prop} {Q : Value → Shared → Prop} (B : Begins v o H) (h1 : H s.heap)
    (h : ∀ h', IsEnum h' (s.heap.objs.size + 1) s.heap.objs.size 0 .none → h'.get? s.heap.objs.size = some o → h'.objs.size = s.heap.objs.size + 2 →
      (∀ b o, s.heap.get? b = some o → h'.get? b = some o) → Q (.ref (s.heap.objs.size + 1)) { s with heap := h' }) :
    wpAny (model prog w) A (call (.type "enumerate") [v]) Q E s := by
  refine callType_new F.called_enumerate (by decide) (F.typeCall_enumerate_1 _) (F.newCall_enumerate_1 _) (fun obj => F.args_object_init_2 obj _) F.entry_enumerate_new
    (meets_enumerate_new1 B) ⟨h1, ?_⟩
  have hz : (s.heap.push o).objs.size = s.heap.objs.size + 1 := Heap.size_push ..
  show _ ∧ _
  rw [hz]
  have he : IsEnum ((s.heap.push o).push { cls := .type "enumerate", data := .fields #[.none, .bool false, .ref s.heap.objs.size, rawInt 0, .none, .none] }) (s.heap.objs.size + 1) s.heap.objs.size 0 .none := by
    have := Heap.get?_push_size (s.heap.push o) (o := { cls := .type "enumerate", data := .fields #[.none, .bool false, .ref s.heap.objs.size, rawInt 0, .none, .none] }) rfl
    rw [hz] at this; exact this
  refine ⟨⟨_, he, rfl⟩, h _ he (Heap.get?_push_of_some _ (Heap.get?_push_size _ B.free)) (by rw [Heap.size_push, hz]) fun b o x => Heap.get?_push_of_some _ (Heap.get?_push_of_some _ x)⟩
def iEnumB (K : PySem.W.Frag) (ta : TA) : TI := fun σ H R => ta σ H fun vs H1 => ∃ b a xs, vs = [.ref a] ∧ SqB b K H1 a xs ∧ R (IteB b K a) H1
theorem pi_enumB {X : Cx} {e : Expr} {ta : TA} {p pos tpos : Pos} {elts : List Expr} {kk : Nat} (hg : Gl X "enumerate") (hm : X.mg "enumerate" = none) (ha : PA X [e] ta) (hs : starEach [e] X.env = [(false, eval e X.env)] := by rfl) :
    PI X (.Tuple elts kk tpos) (.Call (.Name "enumerate" p) [e] [] pos) (iEnumB X.K ta) := by
  refine ⟨fun pins s σ H R I h => ?_⟩
  refine Call_ (ld_blt I hg hm boot_enumerate (PyProof.Rows.callWith_type1 (thn (ha.run pos pins s σ H _ I h) fun us s1 ⟨vs, H1, I1, r1, q1⟩ => ?_) hs rfl))
  obtain ⟨b, a, xs, ex, hq, q⟩ := q1
  subst ex
  cases r1 with
  | cons r rr =>
    cases rr
    cases r
    obtain ⟨its, rv, p', hal⟩ := inv_seqB I1 hq
    refine enum_begins1 (begins_B b a its.toArray) p' fun h' he hit hsz hk => wpAny_pyIter_enum he ?_
    have I2 : Inv X pins σ H1 { s1 with heap := h' } := I1.kept (t' := s1.toks) hk
    refine ⟨s1.heap.objs.size + 1, [s1.heap.objs.size + 1, s1.heap.objs.size], _, _, H1, rfl, I2, turn_enumB b a (s1.heap.objs.size + 1) s1.heap.objs.size (Nat.ne_of_lt (Nat.lt_succ_of_lt hal)) (Nat.ne_of_lt hal), ⟨⟨.none, he⟩, iterB_mk hit, Nat.succ_ne_self _⟩, fun b hb => ?_, q⟩
    have e' : b = s1.heap.objs.size + 1 ∨ b = s1.heap.objs.size := by simpa using hb
    have hle : s1.heap.objs.size ≤ b := by
      rcases e' with z | z
      · rw [z]; exact Nat.le_add_right _ _
      · rw [z]; exact Nat.le_refl _
    exact I1.fpOk hle (I1.hok.fresh hle)
def ItzB (b1 b2 : Bool) (K : PySem.W.Frag) (a c : Addr) : It :=
  ⟨fun i H => ∃ (xs ys : List V) (x y : V), SqB b1 K H a xs ∧ SqB b2 K H c ys ∧ xs[i]? = some x ∧ ys[i]? = some y,
    fun i H v H' => ∃ T x y, v = .ref T ∧ H T = none ∧ H' = upd H T (.tup [x, y]) ∧ (∀ xs, SqB b1 K H a xs → xs[i]? = some x) ∧ ∀ ys, SqB b2 K H c ys → ys[i]? = some y,
    fun i H => ∃ xs ys : List V, SqB b1 K H a xs ∧ SqB b2 K H c ys ∧ i ≤ xs.length ∧ i ≤ ys.length ∧ (i = xs.length ∨ i = ys.length)⟩
theorem turn_zipB {P : Program} {w : World} {K : PySem.W.Frag} {elts : List Expr} {kk : Nat} {tpos : Pos} (b1 b2 : Bool) {a c z TI TO i1 i2 : Addr} (D : ZipSep2 z TI TO i1 i2 [i1, a] [i2, c]) (ha1 : a ≠ i1) (hc2 : c ≠ i2) :
    Turn P w K (.Tuple elts kk tpos) (ItzB b1 b2 K a c) [z, TI, TO, i1, i2] z (fun i h => IsZip h z TI TO .none ∧ IsTupOf2 h TI (.ref i1) (.ref i2) ∧ (∃ x y, IsTupOf2 h TO x y) ∧ IterB b1 h i1 a i ∧ IterB b2 h i2 c i) where
  mem := by simp
  obj := fun i h st d hc => by
    obtain ⟨hz, hTI, ⟨x, y, hTO⟩, h1, h2⟩ := st
    have e' : d = z ∨ d = TI ∨ d = TO ∨ d = i1 ∨ d = i2 := by simpa using hc
    rcases e' with q | q | q | q | q
    · rw [q]; exact ⟨_, hz, fun v q => nomatch q⟩
    · rw [q]; exact ⟨_, hTI, fun v q => nomatch q⟩
    · rw [q]; exact ⟨_, hTO, fun v q => nomatch q⟩
    · rw [q]; exact h1.obj
    · rw [q]; exact h2.obj
  keep := fun i h h' st k => by
    obtain ⟨hz, hTI, ⟨x, y, hTO⟩, h1, h2⟩ := st
    exact ⟨k z (by simp) _ hz, k TI (by simp) _ hTI, ⟨x, y, k TO (by simp) _ hTO⟩, h1.keep fun o q => k i1 (by simp) o q, h2.keep fun o q => k i2 (by simp) o q⟩
  item := by
    intro X hP hw hK hc i pins s σ H E I hf st hg
    subst hP hw hK
    obtain ⟨hz, hTI, ⟨x0, y0, hTO⟩, h1, h2⟩ := st
    obtain ⟨xs, ys, x, y, hqx, hqy, hx, hy⟩ := hg
    obtain ⟨its, rv, p, _⟩ := inv_seqB I hqx
    obtain ⟨its2, rv2, p2, _⟩ := inv_seqB I hqy
    obtain ⟨u, hu, ru⟩ := rv.get hx
    obtain ⟨u2, hu2, ru2⟩ := rv2.get hy
    have hzl : z < s.heap.objs.size := Heap.lt_size hz
    have l1 : i < its.toArray.size := by
      obtain ⟨z, _⟩ := List.getElem?_eq_some_iff.mp hu
      simpa using z
    have l2 : i < its2.toArray.size := by
      obtain ⟨z, _⟩ := List.getElem?_eq_some_iff.mp hu2
      simpa using z
    refine wpAny_pyNext_zipD2_item D (draws_B (show X.A.in1.handled = none from I.ok.hd hc) b1 i1 a ha1 its.toArray) (draws_B (show X.A.in1.handled = none from I.ok.hd hc) b2 i2 c hc2 its2.toArray) hz hTI hTO ⟨h1, p⟩ ⟨h2, p2⟩ l1 l2 fun v1 v2 h' tk e1 e2 z' TO' h1' h2' hT hsz hk => ?_
    have ev1 : v1 = u := by
      have z : its.toArray[i]? = some u := by simpa using hu
      rw [z] at e1
      exact (Option.some.inj e1).symm
    have ev2 : v2 = u2 := by
      have z : its2.toArray[i]? = some u2 := by simpa using hu2
      rw [z] at e2
      exact (Option.some.inj e2).symm
    subst ev1 ev2
    refine ⟨_, rfl, wpAny_letOwnedTupleGo_zip (s := { s with heap := h', toks := tk }) z' fun h'' z'' sb => ?_⟩
    have hT2 : h''.get? s.heap.objs.size = some { cls := .type "tuple", data := .seq #[v1, v2] } := (sb.2 _ (Nat.ne_of_gt hzl)).trans hT
    have new : ObjOk X.prog X.w (upd H s.heap.objs.size (.tup [x, y])) h'' s.heap.objs.size (.tup [x, y]) :=
      ⟨by show 2 ≤ sizeLine; decide, [v1, v2], .cons ru (.cons ru2 .nil), ⟨_, hT2, rfl, _, rfl⟩⟩
    have I1 : Inv X pins σ (upd H s.heap.objs.size (.tup [x, y])) { s with heap := h'', toks := tk } :=
      I.turnedNew (t' := tk) (ch := [z, TI, TO, i1, i2]) (fun d o hb q => (sb.2 d (fun q' => hb (by simp [q']))).trans (hk d o (fun q' => hb (by simp [q'])) (fun q' => hb (by simp [q'])) (fun q' => hb (by simp [q'])) (fun q' => hb (by simp [q'])) q)) hf (Nat.le_refl _) new
    refine ⟨.ref s.heap.objs.size, _, I1, rfl, ⟨_, x, y, rfl, I.hok.fresh (Nat.le_refl _), rfl, fun l hl => by rw [inv_injB I hl hqx]; exact hx, fun l hl => by rw [inv_injB I hl hqy]; exact hy⟩, ⟨z'', ?_, ⟨v1, v2, ?_⟩, ?_, ?_⟩, fun d hcm => ?_⟩
    · exact (sb.2 _ D.TIz).trans (hk _ _ D.TIz D.TITO D.TIi1 D.TIi2 hTI)
    · exact (sb.2 _ D.TOz).trans TO'
    · exact h1'.1.keep fun o q => (sb.2 _ (Ne.symm D.zi1)).trans q
    · exact h2'.1.keep fun o q => (sb.2 _ (Ne.symm D.zi2)).trans q
    · have hlt : d < s.heap.objs.size := by
        have e' : d = z ∨ d = TI ∨ d = TO ∨ d = i1 ∨ d = i2 := by simpa using hcm
        rcases e' with q | q | q | q | q
        · rw [q]; exact hzl
        · rw [q]; exact Heap.lt_size hTI
        · rw [q]; exact Heap.lt_size hTO
        · rw [q]; obtain ⟨_, e1, _⟩ := h1.obj; exact Heap.lt_size e1
        · rw [q]; obtain ⟨_, e2, _⟩ := h2.obj; exact Heap.lt_size e2
      rw [upd_ne (Nat.ne_of_lt hlt)]
      exact (hf d hcm).1
  done := by
    intro X hP hw hK hc i pins s σ H E I hf st hg
    subst hP hw hK
    obtain ⟨hz, hTI, ⟨x0, y0, hTO⟩, h1, h2⟩ := st
    obtain ⟨xs, ys, hqx, hqy, g1, g2, hend⟩ := hg
    obtain ⟨its, rv, p, _⟩ := inv_seqB I hqx
    obtain ⟨its2, rv2, p2, _⟩ := inv_seqB I hqy
    have l1 := rv.length
    have l2 := rv2.length
    exact wpAny_pyNext_zipD2_end D (draws_B (show X.A.in1.handled = none from I.ok.hd hc) b1 i1 a ha1 its.toArray) (draws_B (show X.A.in1.handled = none from I.ok.hd hc) b2 i2 c hc2 its2.toArray) hz hTI hTO ⟨h1, p⟩ ⟨h2, p2⟩ (by simp; omega) (by simp; omega) (by simp; omega) fun h' tk hk => ⟨rfl, I.turnedL (t' := tk) (ch := [z, TI, TO, i1, i2]) (fun d o hb q =>
      hk d o (fun q' => hb (by simp [q'])) (fun q' => hb (by simp [q'])) (fun q' => hb (by simp [q'])) (fun q' => hb (by simp [q'])) q) hf⟩
  self := fun A i s Q E st h => wpAny_pyIter_zip st.1 h
def iZipB (K : PySem.W.Frag) (ta : TA) : TI := fun σ H R => ta σ H fun vs H1 => ∃ b1 b2 a c xs ys, vs = [.ref a, .ref c] ∧ SqB b1 K H1 a xs ∧ SqB b2 K H1 c ys ∧ R (ItzB b1 b2 K a c) H1
theorem pi_zipB {X : Cx} {e e2 : Expr} {ta : TA} {p pos tpos : Pos} {elts : List Expr} {kk : Nat} (hg : Gl X "zip") (hm : X.mg "zip" = none) (ha : PA X [e, e2] ta)
    (hs : starEach [e, e2] X.env = (false, eval e X.env) :: starEach [e2] X.env := by rfl) (hpl : (backTo pos (starEach [e2] X.env)).any (·.1) = false := by rfl) :
    PI X (.Tuple elts kk tpos) (.Call (.Name "zip" p) [e, e2] [] pos) (iZipB X.K ta) := by
  refine ⟨fun pins s σ H R I h => ?_⟩
  refine Call_ (ld_blt I hg hm PyProof.Rows.boot_zip (PyProof.Rows.callWith_type1 (thn (ha.run pos pins s σ H _ I h) fun us s1 ⟨vs, H1, I1, r1, q1⟩ => ?_) hs hpl))
  obtain ⟨b1, b2, a, c, xs, ys, ex, hqx, hqy, q⟩ := q1
  subst ex
  cases r1 with
  | cons r rr =>
    cases rr with
    | cons r' rr =>
      cases rr
      cases r
      cases r'
      have fresh5 : ∀ c, c ∈ [s1.heap.objs.size + 4, s1.heap.objs.size + 2, s1.heap.objs.size + 3, s1.heap.objs.size, s1.heap.objs.size + 1] → FpOk X pins H1 c := fun c hcm => by
        have e' : c = s1.heap.objs.size + 4 ∨ c = s1.heap.objs.size + 2 ∨ c = s1.heap.objs.size + 3 ∨ c = s1.heap.objs.size ∨ c = s1.heap.objs.size + 1 := by simpa using hcm
        have hle : s1.heap.objs.size ≤ c := by
          rcases e' with z | z | z | z | z
          · rw [z]; exact Nat.le_add_right _ _
          · rw [z]; exact Nat.le_add_right _ _
          · rw [z]; exact Nat.le_add_right _ _
          · rw [z]; exact Nat.le_refl _
          · rw [z]; exact Nat.le_add_right _ _
        exact I1.fpOk hle (I1.hok.fresh hle)
      obtain ⟨its, rv, p1, hal⟩ := inv_seqB I1 hqx
      obtain ⟨its2, rv2, p2, hcl⟩ := inv_seqB I1 hqy
      refine zip_begins2 (begins_B b1 a its.toArray) (begins_B b2 c its2.toArray) p1 p2 fun h' hz hTI hTO h1 h2 hsz hk => wpAny_pyIter_zip hz ?_
      have I2 : Inv X pins σ H1 { s1 with heap := h' } := I1.kept (t' := s1.toks) hk
      exact ⟨s1.heap.objs.size + 4, [s1.heap.objs.size + 4, s1.heap.objs.size + 2, s1.heap.objs.size + 3, s1.heap.objs.size, s1.heap.objs.size + 1], _, _, H1, rfl, I2,
        turn_zipB b1 b2 (zip_sep2 (N := s1.heap.objs.size) (fp1 := [a]) (fp2 := [c]) (by simpa using hal) (by simpa using hcl)) (Nat.ne_of_lt hal) (Nat.ne_of_lt (Nat.lt_succ_of_lt hcl)), ⟨hz, hTI, ⟨_, _, hTO⟩, iterB_mk h1, iterB_mk h2⟩, fresh5, q⟩
def iSeqB (K : PySem.W.Frag) (tl : TE) : TI := fun σ H R => tl σ H fun x H1 => ∃ a, x = .ref a ∧ (((∃ xs, SqL K H1 a xs) ∧ R (Itl K a) H1) ∨ ((∃ xs, SqT K H1 a xs) ∧ R (Itt K a) H1))
theorem pi_seqB {X : Cx} {tg l : Expr} {tl : TE} (hl : PE X l tl) : PI X tg l (iSeqB X.K tl) := by
  refine ⟨fun pins s σ H R I h => ?_⟩
  refine thn (hl.run pins s σ H _ I h) fun v s1 ⟨x, H1, I1, r1, q1⟩ => ?_
  obtain ⟨a, e, q1⟩ := q1
  subst e
  cases r1
  have fr : ∀ b ∈ [s1.heap.objs.size], FpOk X pins H1 b := fun b hb => by
    have e : b = s1.heap.objs.size := by simpa using hb
    subst e
    exact I1.fpOk (Nat.le_refl _) (I1.hok.fresh (Nat.le_refl _))
  rcases q1 with ⟨⟨xs, hq⟩, q⟩ | ⟨⟨xs, hq⟩, q⟩
  · obtain ⟨its, rv, p, hz⟩ := I1.list hq
    refine wpAny_pyIter_list p.isList ?_
    exact ⟨s1.heap.objs.size, [s1.heap.objs.size], _, _, H1, rfl, I1.kept (t' := s1.toks) fun b o e => Heap.get?_push_of_some _ e, turn_list a _, ⟨_, Heap.get?_push_size _ rfl, rfl, rfl⟩, fr, q⟩
  · obtain ⟨its, rv, p, hz⟩ := I1.tuple hq
    refine wpAny_pyIter_tuple (show s1.heap.IsTuple a its.toArray from p) ?_
    exact ⟨s1.heap.objs.size, [s1.heap.objs.size], _, _, H1, rfl, I1.kept (t' := s1.toks) fun b o e => Heap.get?_push_of_some _ e, turn_tuple a _, ⟨_, Heap.get?_push_size _ rfl, rfl, rfl⟩, fr, q⟩
end DL
set_option maxHeartbeats 1000000
namespace DL
open PySem PySem.Spec PyProof.Rows L2
abbrev XG := D → List Cell → (List Cell → Prop) → Prop
abbrev XGs := List D → List Cell → (List Cell → Prop) → Prop
/-- the slots' objects are among the earlier ones -/
def SubS (K : PySem.W.Frag) (B : Bs) (F H : Hp) (γ : List Cell) (σ : L2.St) (γ' : List Cell) (σ' : L2.St) : Prop := ∀ fp, SlotsR K B.dd F H σ γ fp → fp.Nodup → ∃ fp', SlotsR K B.dd F H σ' γ' fp' ∧ fp'.Nodup ∧ ∀ a ∈ fp', a ∈ fp
theorem SubS.refl {K : PySem.W.Frag} {B : Bs} {F H : Hp} {γ : List Cell} {σ : L2.St} : SubS K B F H γ σ γ σ := fun fp h n => ⟨fp, h, n, fun _ m => m⟩
theorem SubS.trans {K : PySem.W.Frag} {B : Bs} {F H : Hp} {γ γ1 γ2 : List Cell} {σ σ1 σ2 : L2.St} (a : SubS K B F H γ σ γ1 σ1) (b : SubS K B F H γ1 σ1 γ2 σ2) : SubS K B F H γ σ γ2 σ2 := fun fp h n => by
  obtain ⟨fp1, h1, n1, s1⟩ := a fp h n
  obtain ⟨fp2, h2, n2, s2⟩ := b fp1 h1 n1
  exact ⟨fp2, h2, n2, fun a m => s1 a (s2 a m)⟩
theorem SubS.setD {K : PySem.W.Frag} {B : Bs} {F H : Hp} {γ : List Cell} {σ : L2.St} {v : V} {d : D} (h : Dp K F v d) (i : Nat) : SubS K B F H γ σ (γ.set i (.im d)) (σ.set i (some v)) := fun fp hs n => by
  obtain ⟨fp', q1, q2, q3⟩ := hs.set (CR.im h) i
  exact ⟨fp', q1, q3 (by simpa using n), fun a m => (q2 a m).elim (fun z => nomatch z) id⟩
def liftG (K : PySem.W.Frag) (B : Bs) (sl : List Nat) (T : XG) : TG := fun v σ H Q => ∃ γ F d Q', Rel K B γ F H σ ∧ Dp K F v d ∧ T d γ Q' ∧
  ∀ γ' σ', Rel K B γ' F H σ' → (∀ i, i ∉ sl → σ'[i]? = σ[i]?) → σ'.length = σ.length → SubS K B F H γ σ γ' σ' → Q' γ' → Q σ' H
def liftGs (K : PySem.W.Frag) (B : Bs) (sl : List Nat) (T : XGs) : TGs := fun vs σ H Q => ∃ γ F ds Q', Rel K B γ F H σ ∧ DpAll K F vs ds ∧ T ds γ Q' ∧
  ∀ γ' σ', Rel K B γ' F H σ' → (∀ i, i ∉ sl → σ'[i]? = σ[i]?) → σ'.length = σ.length → SubS K B F H γ σ γ' σ' → Q' γ' → Q σ' H
def DG (X : Cx) (B : Bs) (tg : Expr) (sl : List Nat) (T : XG) : Prop := PG X tg (liftG X.K B sl T)
def DGs (X : Cx) (B : Bs) (tg : List Expr) (sl : List Nat) (T : XGs) : Prop := PGs X tg (liftGs X.K B sl T)
theorem pg_imp {X : Cx} {e : Expr} {t t' : TG} (h : PG X e t) (k : ∀ v σ H Q, t' v σ H Q → t v σ H Q) : PG X e t' := ⟨fun pins s σ H v u Q I r h' => h.run pins s σ H v u _ I r (k _ _ _ _ h')⟩
theorem pgs_imp {X : Cx} {e : List Expr} {t t' : TGs} (h : PGs X e t) (k : ∀ v σ H Q, t' v σ H Q → t v σ H Q) : PGs X e t' := ⟨fun pins s σ H v u Q I r h' => h.run pins s σ H v u _ I r (k _ _ _ _ h')⟩
@[simp] def gNm (i : Nat) : XG := fun d γ K => K (γ.set i (.im d))
@[simp] def gTp (n : Nat) (T : XGs) : XG := fun d γ K => ∃ ds, d = .tuple ds ∧ ds.length = n ∧ T ds γ K
@[simp] def gN0 : XGs := fun ds γ K => ds = [] ∧ K γ
@[simp] def gC (T : XG) (U : XGs) : XGs := fun ds γ K => ∃ d r, ds = d :: r ∧ T d γ fun γ' => U r γ' K
section
variable {X : Cx} {B : Bs} {pos : Pos}
theorem dg_name {i : Nat} {x : Str} (hN : X.N.Nodup) (hi : X.N[i]? = some x := by rfl) (hx : Loc X.env.scope x := by first | exact Or.inl rfl | exact Or.inr rfl) (hf : X.fn x = true ∨ X.env.scope.names.lookup x = some .local := by first | exact .inl rfl | exact .inr rfl) : DG X B (.Name x pos) [i] (gNm i) :=
  pg_imp (pg_name hN hi hx hf) fun v σ H Q ⟨γ, F, d, Q', R, h, q, k⟩ => k _ _ (R.setD h i) (fun j hj => by rw [List.getElem?_set_ne (by rintro rfl; exact hj (by simp))]) (by simp) (.setD h i) q
theorem dgs_nil : DGs X B [] [] gN0 := pgs_imp pgs_nil fun vs σ H Q ⟨γ, F, ds, Q', R, h, ⟨e, q⟩, k⟩ => by
  subst e
  cases h
  exact ⟨rfl, k γ σ R (fun _ _ => rfl) rfl .refl q⟩
theorem dgs_cons {e : Expr} {es : List Expr} {s1 s2 : List Nat} {T : XG} {U : XGs} (h1 : DG X B e s1 T) (h2 : DGs X B es s2 U)
    (hs : (assignEach (e :: es) X.env).map (·.2) = assign e X.env :: (assignEach es X.env).map (·.2) := by rfl) : DGs X B (e :: es) (s1 ++ s2) (gC T U) :=
  pgs_imp (pgs_cons h1 h2 hs) fun vs σ H Q ⟨γ, F, ds, Q', R, h, ⟨d, r, e1, q⟩, k⟩ => by
    subst e1
    cases h with
    | cons h hr =>
      refine ⟨_, _, rfl, γ, F, d, _, R, h, q, fun γ1 σ1 R1 k1 l1 s1 q1 => ⟨γ1, F, r, Q', R1, hr, q1, fun γ2 σ2 R2 k2 l2 s2 q2 => k γ2 σ2 R2 (fun i hi => ?_) (l2.trans l1) (s1.trans s2) q2⟩⟩
      rw [k2 i fun z => hi (List.mem_append_right _ z), k1 i fun z => hi (List.mem_append_left _ z)]
theorem dg_tup {es : List Expr} {k : Nat} {T : XGs} {n : Nat} {sl : List Nat} (hc : X.calm = true) (h : DGs X B es sl T)
    (hn : (assignEach es X.env).length = n := by rfl) (hst : (assignEach es X.env).findIdx? (·.1) = none := by rfl) : DG X B (.Tuple es k pos) sl (gTp n T) :=
  pg_imp (pg_tup hc h hn hst) fun v σ H Q ⟨γ, F, d, Q', R, h, ⟨ds, e, el, q⟩, kk⟩ => by
    subst e
    cases h with
    | tup h1 h2 => exact ⟨_, _, rfl, SqT.mono R.sub h1, by rw [DpAll.length h2]; exact el, γ, F, ds, Q', R, h2, q, kk⟩
end
/-- .. while expressions run -/
structure SrcB (K : PySem.W.Frag) (B : Bs) (J : It) (F0 H0 : Hp) (ds : List D) : Prop where
  go : ∀ i F H, Go B F0 H0 F H → i < ds.length → J.go i H
  stop : ∀ F H, Go B F0 H0 F H → J.stop ds.length H
  yld : ∀ i F H x H', Go B F0 H0 F H → i < ds.length → J.yld i H x H' → ∃ F' d, ds[i]? = some d ∧ Go B F H F' H' ∧ Dp K F' x d
  sz : ds.length ≤ sizeLine
/-- .. while statements run -/
structure SrcF (K : PySem.W.Frag) (B : Bs) (J : It) (F0 : Hp) (ds : List D) : Prop where
  go : ∀ i F H, Same F0 F → Same F H → i < ds.length → J.go i H
  stop : ∀ F H, Same F0 F → Same F H → J.stop ds.length H
  yld : ∀ i F H x H', Same F0 F → Same F H → DeckOk B H → i < ds.length → J.yld i H x H' → ∃ F' d, ds[i]? = some d ∧ Go B F H F' H' ∧ Dp K F' x d
  sz : ds.length ≤ sizeLine
theorem SrcF.toB {K : PySem.W.Frag} {B : Bs} {J : It} {F0 H0 : Hp} {ds : List D} (s : SrcF K B J F0 ds) : SrcB K B J F0 H0 ds :=
  ⟨fun i F H g hi => s.go i F H g.ff g.sub hi, fun F H g => s.stop F H g.ff g.sub, fun i F H x H' g hi y => s.yld i F H x H' g.ff g.sub g.dk hi y, s.sz⟩
abbrev XI := List Cell → (List D → Prop) → Prop
def liftIB (K : PySem.W.Frag) (B : Bs) (T : XI) : TI := fun σ H R => ∃ γ F Q', Rel K B γ F H σ ∧ T γ Q' ∧ ∀ J F' H' ds, Go B F H F' H' → SzH K H' → SrcB K B J F' H' ds → Q' ds → R J H'
def liftIF (K : PySem.W.Frag) (B : Bs) (T : XI) : TI := fun σ H R => ∃ γ F Q', Rel K B γ F H σ ∧ T γ Q' ∧ ∀ J F' H' ds, Go B F H F' H' → SzH K H' → SrcF K B J F' ds → Q' ds → R J H'
def DIB (X : Cx) (B : Bs) (tg it : Expr) (T : XI) : Prop := PI X tg it (liftIB X.K B T)
def DIF (X : Cx) (B : Bs) (tg it : Expr) (T : XI) : Prop := PI X tg it (liftIF X.K B T)
theorem pi_imp {X : Cx} {tg e : Expr} {t t' : TI} (h : PI X tg e t) (k : ∀ σ H R, t' σ H R → t σ H (fun J H' => SzH X.K H' → R J H')) : PI X tg e t' :=
  ⟨fun pins s σ H R I h' => thn (h.run pins s σ H _ I (k _ _ _ h')) fun v s1 h1 => thn h1 fun itv s2 ⟨it, fp, tn, J, H', e, I', T, st, fr, q⟩ => ⟨it, fp, tn, J, H', e, I', T, st, fr, q (inv_sz I')⟩⟩
section
variable {X : Cx} {B : Bs} {tg it e e2 : Expr} {T Ta : XE} {U : XA} {W : XI} {pos p tpos : Pos} {elts : List Expr} {kk : Nat}
theorem dib_of (h : DIF X B tg it W) : DIB X B tg it W := pi_imp h fun σ H R ⟨γ, F, Q', Rl, hT, k⟩ => ⟨γ, F, Q', Rl, hT, fun J F' H' ds g sz s q _ => k J F' H' ds g sz s.toB q⟩
/-- range -/
theorem src_range {K : PySem.W.Frag} {F0 : Hp} (lo : Int) (n : Nat) (hn : n ≤ sizeLine) : SrcF K B (Itr lo n) F0 ((List.range n).map fun i => .int (lo + (i : Nat))) where
  go := fun i F H _ _ hi => by simpa [Itr] using hi
  stop := fun F H _ _ => by simp [Itr]
  sz := by simpa using hn
  yld := fun i F H x H' _ s dk hi y => by
    obtain ⟨e, ex⟩ := y
    subst e ex
    have hi' : i < n := by simpa using hi
    exact ⟨F, .int (lo + i), by simp [hi'], Go.refl s dk, .int _⟩
@[simp] def xRange1 (U : XA) : XI := fun γ K => U γ fun cs => ∃ n : Int, cs = [.im (.int n)] ∧ -(2 ^ 62) ≤ n ∧ n ≤ 16777216 ∧ K ((List.range n.toNat).map fun i => .int (i : Nat))
@[simp] def xRange2 (U : XA) : XI := fun γ K => U γ fun cs => ∃ m n : Int, cs = [.im (.int m), .im (.int n)] ∧ (-8388608 ≤ m ∧ m ≤ 8388608 ∧ -8388608 ≤ n ∧ n ≤ 8388608) ∧ K ((List.range (n - m).toNat).map fun i => .int (m + (i : Nat)))
theorem dif_range1 (h : PI X tg it (iRng1 (liftB X.K B U))) : DIF X B tg it (xRange1 U) := pi_imp h fun σ H R ⟨γ, F, Q', Rl, hT, k⟩ => ⟨γ, F, _, Rl, hT, fun vs F1 H1 cs fp g crs fr ⟨n, e, h1, h2, q⟩ => by
  subst e
  obtain ⟨v, rfl, cr⟩ := crs_one crs
  rw [cr.int]
  refine ⟨n, rfl, h1, by omega, fun sz => k _ F1 H1 _ g sz (src_range 0 n.toNat (by rw [sizeLine_eq]; omega)) ?_⟩
  simpa using q⟩
theorem dif_range2 (h : PI X tg it (iRng2 (liftB X.K B U))) : DIF X B tg it (xRange2 U) := pi_imp h fun σ H R ⟨γ, F, Q', Rl, hT, k⟩ => ⟨γ, F, _, Rl, hT, fun vs F1 H1 cs fp g crs fr ⟨m, n, e, h1, q⟩ => by
  subst e
  obtain ⟨v, w, f1, f2, rfl, c1, c2⟩ := crs_two crs
  rw [c1.int, c2.int]
  exact ⟨m, n, rfl, by omega, fun sz => k _ F1 H1 _ g sz (src_range m (n - m).toNat (by rw [sizeLine_eq]; omega)) q⟩⟩
/-- a list or a tuple -/
@[simp] def xSeq (T : XE) : XI := fun γ K => T γ fun c => ∃ ds, seqF c = some ds ∧ K ds
theorem src_listF {K : PySem.W.Frag} {F0 : Hp} {a : Addr} {vs : List V} {ds : List D} (h : SqL K F0 a vs) (al : DpAll K F0 vs ds) (hz : vs.length ≤ sizeLine) : SrcF K B (Itl K a) F0 ds where
  sz := by rw [← DpAll.length al]; exact hz
  go := fun i F H s1 s2 hi => by
    obtain ⟨v, e, _⟩ := DpAll.get al (List.getElem?_eq_getElem hi)
    exact ⟨vs, v, (s1.trans s2).seq h, e⟩
  stop := fun F H s1 s2 => ⟨vs, (s1.trans s2).seq h, by rw [DpAll.length al]; exact Nat.le_refl _⟩
  yld := fun i F H x H' s1 s2 dk hi y => by
    obtain ⟨e, hy⟩ := y
    subst e
    obtain ⟨d, e1, e2⟩ := DpAll.getV al (hy vs ((s1.trans s2).seq h))
    exact ⟨F, d, e1, Go.refl s2 dk, Dp.mono s1 e2⟩
theorem src_tupF {K : PySem.W.Frag} {F0 : Hp} {a : Addr} {vs : List V} {ds : List D} (h : SqT K F0 a vs) (al : DpAll K F0 vs ds) (hz : vs.length ≤ sizeLine) : SrcF K B (Itt K a) F0 ds where
  sz := by rw [← DpAll.length al]; exact hz
  go := fun i F H s1 s2 hi => by
    obtain ⟨v, e, _⟩ := DpAll.get al (List.getElem?_eq_getElem hi)
    exact ⟨vs, v, SqT.mono (s1.trans s2) h, e⟩
  stop := fun F H s1 s2 => ⟨vs, SqT.mono (s1.trans s2) h, by rw [DpAll.length al]; exact Nat.le_refl _⟩
  yld := fun i F H x H' s1 s2 dk hi y => by
    obtain ⟨e, hy⟩ := y
    subst e
    obtain ⟨d, e1, e2⟩ := DpAll.getV al (hy vs (SqT.mono (s1.trans s2) h))
    exact ⟨F, d, e1, Go.refl s2 dk, Dp.mono s1 e2⟩
theorem src_listB {K : PySem.W.Frag} {F0 H0 : Hp} {a : Addr} {vs : List V} {ds : List D} (h : H0 a = some (.lst vs)) (hm : a ∉ B.ms) (al : DpAll K F0 vs ds) (hz : vs.length ≤ sizeLine) : SrcB K B (Itl K a) F0 H0 ds where
  sz := by rw [← DpAll.length al]; exact hz
  go := fun i F H g hi => by
    obtain ⟨v, e, _⟩ := DpAll.get al (List.getElem?_eq_getElem hi)
    exact ⟨vs, v, .inl (.inl (g.hh a _ hm h)), e⟩
  stop := fun F H g => ⟨vs, .inl (.inl (g.hh a _ hm h)), by rw [DpAll.length al]; exact Nat.le_refl _⟩
  yld := fun i F H x H' g hi y => by
    obtain ⟨e, hy⟩ := y
    subst e
    obtain ⟨d, e1, e2⟩ := DpAll.getV al (hy vs (.inl (.inl (g.hh a _ hm h))))
    exact ⟨F, d, e1, Go.refl g.sub g.dk, Dp.mono g.ff e2⟩
theorem dib_seq (h : DR X B e T) : DIB X B tg e (xSeq T) := pi_imp (pi_seqB h) fun σ H R ⟨γ, F, Q', Rl, hT, k⟩ => ⟨γ, F, _, Rl, hT, fun v F1 H1 c fp g sz cr fr ⟨ds, e, q⟩ => by
  rcases seqF_cases e with e | e
  · subst e
    obtain ⟨a, vs, rfl, t, al⟩ := cr.tup
    exact ⟨a, rfl, .inr ⟨⟨vs, SqT.mono g.sub t⟩, fun sz => k _ F1 H1 ds g sz (src_tupF t al (sz _ _ (.inr (SqT.mono g.sub t)))).toB q⟩⟩
  · obtain ⟨a, vs, rfl, t, al⟩ := cr.frl g.sub e
    refine ⟨a, rfl, .inl ⟨⟨vs, sq_of g.sub t⟩, fun sz => k _ F1 H1 ds g sz ?_ q⟩⟩
    rcases t with t | ⟨t, ef⟩
    · exact (src_listF t al (sz _ _ (.inl (g.sub.seq t)))).toB
    · exact src_listB t (fr a (by rw [ef]; simp)) al (sz _ _ (.inl (.inl (.inl t))))⟩
theorem dif_seq (h : DE X B e T) : DIF X B tg e (xSeq T) := pi_imp (pi_seqB h) fun σ H R ⟨γ, F, Q', Rl, hT, k⟩ => ⟨γ, F, _, Rl, hT, fun v F1 H1 c fp g sz cr nd fr ⟨ds, e, q⟩ => by
  rcases seqF_cases e with e | e
  · subst e
    obtain ⟨a, vs, rfl, t, al⟩ := cr.tup
    exact ⟨a, rfl, .inr ⟨⟨vs, SqT.mono g.sub t⟩, fun sz => k _ F1 H1 ds g sz (src_tupF t al (sz _ _ (.inr (SqT.mono g.sub t)))) q⟩⟩
  · obtain ⟨a, vs, rfl, t, al⟩ := cr.frl g.sub e
    refine ⟨a, rfl, .inl ⟨⟨vs, sq_of g.sub t⟩, fun sz => ?_⟩⟩
    rcases t with t | ⟨t, ef⟩
    · exact k _ F1 H1 ds g sz (src_listF t al (sz _ _ (.inl (g.sub.seq t)))) q
    · have g2 := g.addF fr
      refine k _ _ H1 ds g2 sz (src_listF (.inl (.inl ?_)) (DpAll.mono (addF_same fun a m => (fr a m).2) al) (sz _ _ (.inl (.inl (.inl t))))) q
      rw [addF_in (by rw [ef]; simp)]; exact t⟩
/-- enumerate, zip -/
def enumD (ds : List D) : List D := ds.zipIdx.map fun p => .tuple [.int (p.2 : Nat), p.1]
def zipD (ds es : List D) : List D := (ds.zip es).map fun p => .tuple [p.1, p.2]
theorem src_enumF {K : PySem.W.Frag} {F0 : Hp} {b : Bool} {a : Addr} {vs : List V} {ds : List D} (h : SqB b K F0 a vs) (al : DpAll K F0 vs ds) (hz : vs.length ≤ sizeLine) : SrcF K B (IteB b K a) F0 (enumD ds) where
  sz := by simpa [enumD, DpAll.length al] using hz
  go := fun i F H s1 s2 hi => by
    have hi' : i < ds.length := by simpa [enumD] using hi
    obtain ⟨v, e, _⟩ := DpAll.get al (List.getElem?_eq_getElem hi')
    exact ⟨vs, v, h.mono (s1.trans s2), e⟩
  stop := fun F H s1 s2 => ⟨vs, h.mono (s1.trans s2), by simp [enumD, DpAll.length al]⟩
  yld := fun i F H x H' s1 s2 dk hi y => by
    have hi' : i < ds.length := by simpa [enumD] using hi
    obtain ⟨T, z, e1, e2, e3, hy⟩ := y
    subst e1 e3
    obtain ⟨d, e4, e5⟩ := DpAll.getV al (hy vs (h.mono (s1.trans s2)))
    have g := Go.newF (B := B) (o := .tup [.int (i : Nat), z]) s2 dk e2
    refine ⟨_, .tuple [.int i, d], ?_, g, .tup (.inl (.inl upd_same)) (.cons (.int _) (.cons (Dp.mono (s1.trans g.ff) e5) .nil))⟩
    simp [enumD, e4]
theorem src_zipF {K : PySem.W.Frag} {F0 : Hp} {b c : Bool} {a a2 : Addr} {vs ws : List V} {ds es : List D} (h : SqB b K F0 a vs) (h2 : SqB c K F0 a2 ws) (al : DpAll K F0 vs ds) (hz : vs.length ≤ sizeLine) (al2 : DpAll K F0 ws es) : SrcF K B (ItzB b c K a a2) F0 (zipD ds es) where
  sz := by have := DpAll.length al; simp [zipD]; omega
  go := fun i F H s1 s2 hi => by
    have hi' : i < min ds.length es.length := by simpa [zipD] using hi
    obtain ⟨v, e, _⟩ := DpAll.get al (List.getElem?_eq_getElem (show i < ds.length by omega))
    obtain ⟨w, e', _⟩ := DpAll.get al2 (List.getElem?_eq_getElem (show i < es.length by omega))
    exact ⟨vs, ws, v, w, h.mono (s1.trans s2), h2.mono (s1.trans s2), e, e'⟩
  stop := fun F H s1 s2 => ⟨vs, ws, h.mono (s1.trans s2), h2.mono (s1.trans s2), by simp [zipD, DpAll.length al, DpAll.length al2]; omega, by simp [zipD, DpAll.length al, DpAll.length al2]; omega, by simp [zipD, DpAll.length al, DpAll.length al2]; omega⟩
  yld := fun i F H x H' s1 s2 dk hi y => by
    obtain ⟨T, z, z2, e1, e2, e3, hy, hy2⟩ := y
    subst e1 e3
    obtain ⟨d, e4, e5⟩ := DpAll.getV al (hy vs (h.mono (s1.trans s2)))
    obtain ⟨d2, e6, e7⟩ := DpAll.getV al2 (hy2 ws (h2.mono (s1.trans s2)))
    have g := Go.newF (B := B) (o := .tup [z, z2]) s2 dk e2
    refine ⟨_, .tuple [d, d2], ?_, g, .tup (.inl (.inl upd_same)) (.cons (Dp.mono (s1.trans g.ff) e5) (.cons (Dp.mono (s1.trans g.ff) e7) .nil))⟩
    simp [zipD]
    exact List.getElem?_zip_eq_some.mpr ⟨e4, e6⟩
theorem sqB_sz {K : PySem.W.Frag} {H : Hp} {b : Bool} {a : Addr} {vs : List V} (sz : SzH K H) (h : SqB b K H a vs) : vs.length ≤ sizeLine := by
  cases b with
  | true => exact sz a vs (.inr h)
  | false => exact sz a vs (.inl h)
/-- fresh parts are frozen first -/
theorem seqF_frozen {K : PySem.W.Frag} {F1 H1 : Hp} {v : V} {c : Cell} {fp : List Addr} {ds : List D} {da : Option Addr} (s : Same F1 H1) (fr : ∀ a ∈ fp, F1 a = none) (cr : CR K da F1 H1 v c fp) (e : seqF c = some ds) : ∃ b a vs, v = .ref a ∧ SqB b K (addF F1 H1 fp) a vs ∧ DpAll K (addF F1 H1 fp) vs ds := by
  have sm : Same F1 (addF F1 H1 fp) := addF_same fr
  rcases seqF_cases e with e | e
  · subst e
    obtain ⟨a, vs, rfl, t, al⟩ := cr.tup
    exact ⟨true, a, vs, rfl, SqT.mono sm t, DpAll.mono sm al⟩
  · obtain ⟨a, vs, rfl, t, al⟩ := cr.frl s e
    rcases t with t | ⟨t, ef⟩
    · exact ⟨false, a, vs, rfl, sm.seq t, DpAll.mono sm al⟩
    · refine ⟨false, a, vs, rfl, .inl (.inl ?_), DpAll.mono sm al⟩
      rw [addF_in (by rw [ef]; simp)]; exact t
@[simp] def xEnum (U : XA) : XI := fun γ K => U γ fun cs => ∃ c ds, cs = [c] ∧ seqF c = some ds ∧ K (enumD ds)
@[simp] def xZip (U : XA) : XI := fun γ K => U γ fun cs => ∃ c c2 ds es, cs = [c, c2] ∧ seqF c = some ds ∧ seqF c2 = some es ∧ K (zipD ds es)
theorem dif_enum (h : PI X (.Tuple elts kk tpos) it (iEnumB X.K (liftA X.K B U))) : DIF X B (.Tuple elts kk tpos) it (xEnum U) := pi_imp h fun σ H R ⟨γ, F, Q', Rl, hT, k⟩ => ⟨γ, F, _, Rl, hT, fun vs F1 H1 cs fp g crs nd fr ⟨c, ds, e, e2, q⟩ => by
  subst e
  obtain ⟨v, rfl, cr⟩ := crs_one crs
  have g2 := g.addF fr
  obtain ⟨b, a, vs, rfl, t, al⟩ := seqF_frozen g.sub (fun a m => (fr a m).2) cr e2
  exact ⟨b, a, vs, rfl, t.mono g2.sub, fun sz => k _ _ H1 _ g2 sz (src_enumF t al (sqB_sz sz (t.mono g2.sub))) q⟩⟩
theorem dif_zip (h : PI X (.Tuple elts kk tpos) it (iZipB X.K (liftA X.K B U))) : DIF X B (.Tuple elts kk tpos) it (xZip U) := pi_imp h fun σ H R ⟨γ, F, Q', Rl, hT, k⟩ => ⟨γ, F, _, Rl, hT, fun vs F1 H1 cs fp g crs nd fr ⟨c, c2, ds, es, e, e2, e3, q⟩ => by
  subst e
  have g2 := g.addF fr
  cases crs with
  | @cons _ _ _ _ f1 _ h1 hs => cases hs with
    | @cons _ _ _ _ f2 _ h2 hs =>
      cases hs
      obtain ⟨b, a, vs, rfl, t, al⟩ := seqF_frozen g.sub (fun a m => (fr a (List.mem_append_left _ m)).2) h1 e2
      obtain ⟨b2, a2, vs2, rfl, t2, al2⟩ := seqF_frozen g.sub (fun a m => (fr a (List.mem_append_right _ (List.mem_append_left _ m))).2) h2 e3
      have m1 := addF_mono (F := F1) (H := H1) (fp := f1) (fq := f1 ++ (f2 ++ [])) g.sub (fun a m => List.mem_append_left _ m)
      have m2 := addF_mono (F := F1) (H := H1) (fp := f2) (fq := f1 ++ (f2 ++ [])) g.sub (fun a m => List.mem_append_right _ (List.mem_append_left _ m))
      exact ⟨b, b2, a, a2, vs, vs2, rfl, t.mono (m1.trans g2.sub), t2.mono (m2.trans g2.sub), fun sz => k _ _ H1 _ g2 sz (src_zipF (t.mono m1) (t2.mono m2) (DpAll.mono m1 al) (sqB_sz sz (t.mono (m1.trans g2.sub))) (DpAll.mono m2 al2)) q⟩⟩
/-- .. read while expressions run -/
theorem seqF_stable {K : PySem.W.Frag} {F1 H1 : Hp} {v : V} {c : Cell} {fp : List Addr} {ds : List D} {da : Option Addr} (s : Same F1 H1) (fr : ∀ a ∈ fp, a ∉ B.ms) (cr : CR K da F1 H1 v c fp) (e : seqF c = some ds) :
    ∃ b a vs, v = .ref a ∧ SqB b K H1 a vs ∧ (∀ F H, Go B F1 H1 F H → SqB b K H a vs) ∧ DpAll K F1 vs ds := by
  rcases seqF_cases e with e | e
  · subst e
    obtain ⟨a, vs, rfl, t, al⟩ := cr.tup
    exact ⟨true, a, vs, rfl, SqT.mono s t, fun F H g => SqT.mono (g.ff.trans g.sub) t, al⟩
  · obtain ⟨a, vs, rfl, t, al⟩ := cr.frl s e
    rcases t with t | ⟨t, ef⟩
    · exact ⟨false, a, vs, rfl, s.seq t, fun F H g => (g.ff.trans g.sub).seq t, al⟩
    · exact ⟨false, a, vs, rfl, .inl (.inl t), fun F H g => .inl (.inl (g.hh a _ (fr a (by rw [ef]; simp)) t)), al⟩
theorem src_enumB {K : PySem.W.Frag} {F0 H0 : Hp} {b : Bool} {a : Addr} {vs : List V} {ds : List D} (h : ∀ F H, Go B F0 H0 F H → SqB b K H a vs) (al : DpAll K F0 vs ds) (hz : vs.length ≤ sizeLine) : SrcB K B (IteB b K a) F0 H0 (enumD ds) where
  sz := by simpa [enumD, DpAll.length al] using hz
  go := fun i F H g hi => by
    have hi' : i < ds.length := by simpa [enumD] using hi
    obtain ⟨v, e, _⟩ := DpAll.get al (List.getElem?_eq_getElem hi')
    exact ⟨vs, v, h F H g, e⟩
  stop := fun F H g => ⟨vs, h F H g, by simp [enumD, DpAll.length al]⟩
  yld := fun i F H x H' g0 hi y => by
    have hi' : i < ds.length := by simpa [enumD] using hi
    obtain ⟨T, z, e1, e2, e3, hy⟩ := y
    subst e1 e3
    obtain ⟨d, e4, e5⟩ := DpAll.getV al (hy vs (h F H g0))
    have g := Go.newF (B := B) (o := .tup [.int (i : Nat), z]) g0.sub g0.dk e2
    refine ⟨_, .tuple [.int i, d], ?_, g, .tup (.inl (.inl upd_same)) (.cons (.int _) (.cons (Dp.mono (g0.ff.trans g.ff) e5) .nil))⟩
    simp [enumD, e4]
theorem src_zipB {K : PySem.W.Frag} {F0 H0 : Hp} {b c : Bool} {a a2 : Addr} {vs ws : List V} {ds es : List D} (h : ∀ F H, Go B F0 H0 F H → SqB b K H a vs) (h2 : ∀ F H, Go B F0 H0 F H → SqB c K H a2 ws) (al : DpAll K F0 vs ds) (hz : vs.length ≤ sizeLine) (al2 : DpAll K F0 ws es) : SrcB K B (ItzB b c K a a2) F0 H0 (zipD ds es) where
  sz := by have := DpAll.length al; simp [zipD]; omega
  go := fun i F H g hi => by
    have hi' : i < min ds.length es.length := by simpa [zipD] using hi
    obtain ⟨v, e, _⟩ := DpAll.get al (List.getElem?_eq_getElem (show i < ds.length by omega))
    obtain ⟨w, e', _⟩ := DpAll.get al2 (List.getElem?_eq_getElem (show i < es.length by omega))
    exact ⟨vs, ws, v, w, h F H g, h2 F H g, e, e'⟩
  stop := fun F H g => ⟨vs, ws, h F H g, h2 F H g, by simp [zipD, DpAll.length al, DpAll.length al2]; omega, by simp [zipD, DpAll.length al, DpAll.length al2]; omega, by simp [zipD, DpAll.length al, DpAll.length al2]; omega⟩
  yld := fun i F H x H' g0 hi y => by
    obtain ⟨T, z, z2, e1, e2, e3, hy, hy2⟩ := y
    subst e1 e3
    obtain ⟨d, e4, e5⟩ := DpAll.getV al (hy vs (h F H g0))
    obtain ⟨d2, e6, e7⟩ := DpAll.getV al2 (hy2 ws (h2 F H g0))
    have g := Go.newF (B := B) (o := .tup [z, z2]) g0.sub g0.dk e2
    refine ⟨_, .tuple [d, d2], ?_, g, .tup (.inl (.inl upd_same)) (.cons (Dp.mono (g0.ff.trans g.ff) e5) (.cons (Dp.mono (g0.ff.trans g.ff) e7) .nil))⟩
    simp [zipD]
    exact List.getElem?_zip_eq_some.mpr ⟨e4, e6⟩
theorem dib_enum (h : PI X (.Tuple elts kk tpos) it (iEnumB X.K (liftB X.K B U))) : DIB X B (.Tuple elts kk tpos) it (xEnum U) := pi_imp h fun σ H R ⟨γ, F, Q', Rl, hT, k⟩ => ⟨γ, F, _, Rl, hT, fun vs F1 H1 cs fp g crs fr ⟨c, ds, e, e2, q⟩ => by
  subst e
  obtain ⟨v, rfl, cr⟩ := crs_one crs
  obtain ⟨b, a, vs, rfl, t, st, al⟩ := seqF_stable g.sub fr cr e2
  exact ⟨b, a, vs, rfl, t, fun sz => k _ _ H1 _ g sz (src_enumB st al (sqB_sz sz t)) q⟩⟩
theorem dib_zip (h : PI X (.Tuple elts kk tpos) it (iZipB X.K (liftB X.K B U))) : DIB X B (.Tuple elts kk tpos) it (xZip U) := pi_imp h fun σ H R ⟨γ, F, Q', Rl, hT, k⟩ => ⟨γ, F, _, Rl, hT, fun vs F1 H1 cs fp g crs fr ⟨c, c2, ds, es, e, e2, e3, q⟩ => by
  subst e
  cases crs with
  | @cons _ _ _ _ f1 _ h1 hs => cases hs with
    | @cons _ _ _ _ f2 _ h2 hs =>
      cases hs
      obtain ⟨b, a, vs, rfl, t, st, al⟩ := seqF_stable g.sub (fun a m => fr a (List.mem_append_left _ m)) h1 e2
      obtain ⟨b2, a2, vs2, rfl, t2, st2, al2⟩ := seqF_stable g.sub (fun a m => fr a (List.mem_append_right _ (List.mem_append_left _ m))) h2 e3
      exact ⟨b, b2, a, a2, vs, vs2, rfl, t, t2, fun sz => k _ _ H1 _ g sz (src_zipB st st2 al (sqB_sz sz t) al2) q⟩⟩
end
def compGo (G : XG) (U : XT) (T : XE) (γ : List Cell) (K : Cell → Prop) : List D → List Cell → Prop
  | [], acc => K (.ow acc)
  | d :: ds, acc => G d γ fun γ2 => U γ2 fun b => if b = true then T γ2 fun c => compGo G U T γ K ds (acc ++ [c]) else compGo G U T γ K ds acc
@[simp] def xLC (W : XI) (G : XG) (U : XT) (T : XE) (vs : List Nat) : XE := fun γ K => W γ fun ds => compGo G U T (wipeC γ vs) K ds []
def liftTs (X : Cx) (B : Bs) (ifs : List Expr) (U : XT) : Prop := PTs X ifs (liftT X.K B U)
@[simp] def uYes : XT := fun _ K => K true
theorem dts_nil {X : Cx} {B : Bs} : liftTs X B [] uYes := by
  have h := pts_nil (X := X)
  exact ⟨fun pins s σ H Q I ⟨γ, F, Q', R, hT, k⟩ => h.run pins s σ H Q I (k true F H R.refl hT)⟩
theorem dts_one {X : Cx} {B : Bs} {c : Expr} {U : XT} (h : DT X B c U) : liftTs X B [c] U := pts_one h
theorem wipe_eq {σ σ' : L2.St} (hl : σ'.length = σ.length) {sl : List Nat} (h : ∀ i, i ∉ sl → σ'[i]? = σ[i]?) : ∀ {vs : List Nat}, (∀ i ∈ sl, i ∈ vs) → wipe σ' vs = wipe σ vs := by
  intro vs hv
  apply List.ext_getElem?
  intro j
  have out : ∀ (σ : L2.St) (vs : List Nat) (j : Nat), j ∈ vs → (wipe σ vs)[j]? = if j < σ.length then some none else none := by
    intro σ vs
    induction vs with
    | nil => intro j hj; cases hj
    | cons v vs ih =>
      intro j hj
      unfold wipe
      by_cases e : v = j
      · subst e
        by_cases hlt : v < σ.length
        · rw [if_pos hlt, List.getElem?_set_self (by rw [wipe_length]; exact hlt)]
        · rw [if_neg hlt, List.getElem?_eq_none (by rw [List.length_set, wipe_length]; omega)]
      · rw [List.getElem?_set_ne e]
        rcases List.mem_cons.mp hj with z | z
        · exact absurd z.symm e
        · exact ih j z
  by_cases hj : j ∈ vs
  · rw [out _ _ _ hj, out _ _ _ hj, hl]
  · rw [wipe_out hj, wipe_out hj]
    exact h j fun z => hj (hv j z)
theorem wipe_wipe {σ : L2.St} : ∀ {vs : List Nat}, wipe (wipe σ vs) vs = wipe σ vs := by
  intro vs
  exact wipe_eq (wipe_length σ vs) (sl := vs) (fun i hi => wipe_out hi) (fun i hi => hi)
theorem app_nodup {H : Hp} {fp f : List Addr} (n1 : fp.Nodup) (n2 : f.Nodup) (h : ∀ a ∈ fp, ∃ o, H a = some o) (h2 : ∀ a ∈ f, H a = none) : (fp ++ f).Nodup :=
  List.nodup_append.mpr ⟨n1, n2, fun a ha b hb e => by
    subst e
    obtain ⟨o, z⟩ := h a ha
    rw [h2 a hb] at z; cases z⟩
section
variable {X : Cx} {B : Bs}
theorem Go.put {F H F' H' : Hp} {p : Addr} {o : HO} (g : Go B F H F' H') (dk : DeckOk B H) (h : H p = Option.none) (hf : F' p = Option.none) (hx : ∀ φ, H' p ≠ some (.ext φ)) : Go B F H F' (upd H' p o) := by
  have hm := not_ms dk h
  refine ⟨g.ff, fun a x m e => by rw [upd_ne (ne_of_none e h)]; exact g.hh a x m e, g.nw, fun a x e => ?_, g.dk.keep (fun a m => upd_ne fun z => hm (z ▸ m)) fun a q e => by rw [upd_ne fun z => hx _ (by rw [← z]; exact e)]; exact e⟩
  rw [upd_ne (ne_of_none e hf)]
  exact g.sub a x e
/-- the reading of a comprehension -/
theorem lc_read0 {W : XI} {G : XG} {U : XT} {T : XE} {sl vs : List Nat} {σ : L2.St} {H F : Hp} {γ : List Cell} {Q' : Cell → Prop} {Q : VK} (hsl : ∀ i ∈ sl, i ∈ vs) (Rl : Rel X.K B γ F H σ) (hT : xLC W G U T vs γ Q')
    (k : ∀ v F' H' c fp, Go B F H F' H' → CR X.K B.dd F' H' v c fp → fp.Nodup → (∀ a ∈ fp, H a = none ∧ F' a = none) → Q' c → Q v H') : tLc (liftIB X.K B W) (liftG X.K B sl G) (liftT X.K B U) (liftE X.K B T) vs σ H Q := by
  refine ⟨γ, F, _, Rl, hT, fun J F1 H1 ds g1 sz1 src hq D nD => ?_⟩
  have dk1 := g1.dk
  have mD : D ∉ B.ms := not_ms dk1 nD
  have R1 := (Rl.step g1).wipe vs
  refine ⟨fun i m H => m = ds.length - i ∧ i ≤ ds.length ∧ ∃ F2 acc vacc fp, Go B F1 H1 F2 H ∧ H D = some (.lst vacc) ∧ F2 D = none ∧ CRs X.K B.dd F2 H vacc acc fp ∧ fp.Nodup ∧
    (∀ a ∈ fp, H1 a = none ∧ F2 a = none ∧ a ≠ D) ∧ vacc.length ≤ i ∧ compGo G U T (wipeC γ vs) Q' (ds.drop i) acc, ?_, ?_⟩
  · refine ⟨ds.length, by simp, Nat.zero_le _, F1, [], [], [], Go.new g1.sub dk1 nD, upd_same, ?_, .nil, List.nodup_nil, (fun _ z => nomatch z), Nat.le_refl _, by simpa using hq⟩
    cases e : F1 D with
    | none => rfl
    | some o => rw [g1.sub D o e] at nD; cases nD
  · rintro i m H2 ⟨rfl, hi, F2, acc, vacc, fp, g2, hD, fD, crs, nd, fr, hlen, go⟩
    by_cases hlt : i < ds.length
    · refine .inr ⟨src.go i F2 H2 g2 hlt, fun H' => i + 1 ≤ ds.length ∧ ∃ F2 acc vacc fp, Go B F1 H1 F2 H' ∧ H' D = some (.lst vacc) ∧ F2 D = none ∧ CRs X.K B.dd F2 H' vacc acc fp ∧ fp.Nodup ∧
        (∀ a ∈ fp, H1 a = none ∧ F2 a = none ∧ a ≠ D) ∧ vacc.length ≤ i + 1 ∧ compGo G U T (wipeC γ vs) Q' (ds.drop (i + 1)) acc, fun H' hN => ⟨ds.length - (i + 1), by omega, rfl, hN.1, hN.2⟩, fun x H3 y => ?_⟩
      obtain ⟨F3, d, ed, g3, hd⟩ := src.yld i F2 H2 x H3 g2 hlt y
      have edr : ds.drop i = d :: ds.drop (i + 1) := by
        obtain ⟨z, e⟩ := List.getElem?_eq_some_iff.mp ed
        rw [List.drop_eq_getElem_cons hlt, e]
      rw [edr] at go
      have g23 := g2.trans g3
      refine ⟨wipeC γ vs, F3, d, _, R1.step g23, hd, go, fun γ2 σ2 R2 kp ln _ q2 => ⟨(wipe_eq (by rw [ln]) (sl := sl) kp hsl).trans wipe_wipe, γ2, F3, _, R2, q2, fun b F4 H4 g4 q4 => ?_⟩⟩
      have g34 := g3.trans g4
      cases b with
      | true =>
        refine iteT ⟨γ2, F4, _, R2.step g4, (if_pos rfl).mp q4, fun z F5 H5 c f g5 sz5 cr ndc frc q5 => ?_⟩
        have g25 := g34.trans g5
        have tD : ∀ {o : HO}, H2 D = some o → H5 D = some o := fun e => g25.hh D _ mD e
        have fD5 : F5 D = none := g25.nw D fD (by rw [hD]; exact fun z => by cases z)
        have g15 := g2.trans g25
        have keep : ∀ a ∈ fp, ∀ o, H2 a = some o → (upd H5 D (.lst (vacc ++ [z]))) a = some o := fun a m o e => by
          rw [upd_ne (fr a m).2.2]
          exact g25.hh a o (not_ms dk1 (fr a m).1) e
        have crD : ∀ a ∈ f, a ≠ D := fun a m e => by
          subst e
          have := (frc a m).1
          rw [g34.hh a _ mD hD] at this
          cases this
        refine ⟨vacc, tD hD, ?_, hlt, F5, acc ++ [c], vacc ++ [z], fp ++ f, g15.put dk1 nD fD5 (fun φ z => by rw [tD hD] at z; cases z), upd_same, fD5, ?_, ?_, fun a m => ?_, ?_, q5⟩
        · exact Nat.lt_of_le_of_lt hlen (Nat.lt_of_lt_of_le hlt src.sz)
        · refine CRs.app (crs.mono g25.ff keep) (CRs.one (cr.mono (Same.refl F5) fun a m o e => ?_))
          rw [upd_ne (crD a m)]; exact e
        · refine app_nodup (H := H4) nd ndc (fun a m => ?_) fun a m => (frc a m).1
          obtain ⟨o, e⟩ := crs.there a m
          exact ⟨o, g34.hh a o (not_ms dk1 (fr a m).1) e⟩
        · rcases List.mem_append.mp m with m | m
          · refine ⟨(fr a m).1, g25.nw a (fr a m).2.1 ?_, (fr a m).2.2⟩
            obtain ⟨o, e⟩ := crs.there a m
            rw [e]; exact fun z => by cases z
          · exact ⟨(g2.trans g34).none (frc a m).1, (frc a m).2, crD a m⟩
        · rw [List.length_append]
          show vacc.length + 1 ≤ i + 1
          omega
      | false =>
        have g14 := g2.trans g34
        have fD4 : F4 D = none := g34.nw D fD (by rw [hD]; exact fun z => by cases z)
        refine iteF ⟨hlt, F4, acc, vacc, fp, g14, g34.hh D _ mD hD, fD4, crs.mono g34.ff (fun a m o e => g34.hh a o (not_ms dk1 (fr a m).1) e), nd, fun a m => ⟨(fr a m).1, g34.nw a (fr a m).2.1 ?_, (fr a m).2.2⟩, Nat.le_succ_of_le hlen, (if_neg Bool.false_ne_true).mp q4⟩
        obtain ⟨o, e⟩ := crs.there a m
        rw [e]; exact fun z => by cases z
    · have e : i = ds.length := by omega
      subst e
      refine .inl ⟨src.stop F2 H2 g2, ?_⟩
      have go' : Q' (.ow acc) := by simpa [compGo] using go
      refine k (.ref D) F2 H2 (.ow acc) (D :: fp) (g1.trans g2) (.ow hD crs) (List.nodup_cons.mpr ⟨fun m => (fr D m).2.2 rfl, nd⟩) (fun a m => ?_) go'
      rcases List.mem_cons.mp m with e | m
      · subst e; exact ⟨g1.none nD, fD⟩
      · exact ⟨g1.none (fr a m).1, (fr a m).2.1⟩
theorem de_lc {e : Expr} {W : XI} {G : XG} {U : XT} {T : XE} {sl vs : List Nat} (h : PE X e (tLc (liftIB X.K B W) (liftG X.K B sl G) (liftT X.K B U) (liftE X.K B T) vs)) (hsl : ∀ i ∈ sl, i ∈ vs := by decide) : DE X B e (xLC W G U T vs) :=
  pe_imp h fun σ H Q ⟨γ, F, Q', Rl, hT, k⟩ _ => lc_read0 hsl Rl hT fun v F' H' c fp g cr nd fr q sz => k v F' H' c fp g sz cr nd fr q
end
structure XEnds where
  nx : List Cell → Prop
  rt : Cell → Prop
  bk : List Cell → Prop := fun _ => False
  ct : List Cell → Prop := fun _ => False
abbrev XS := XEnds → List Cell → Prop
/-- what is given back -/
def Fin (K : PySem.W.Frag) (B : Bs) (F H : Hp) (v : V) (c : Cell) : Prop := Go B B.F0 B.G F H ∧ ∃ fp, CR K B.dd F H v c fp ∧ fp.Nodup ∧ ∀ a ∈ fp, B.G a = none ∧ F a = none
def liftS (K : PySem.W.Frag) (B : Bs) (T : XS) : TS := fun Dd σ H => ∃ γ F D', Rel K B γ F H σ ∧ T D' γ ∧
  (∀ γ' F' σ' H', Rel K B γ' F' H' σ' → Same F F' → D'.nx γ' → Dd.nx σ' H') ∧ (∀ γ' F' σ' H', Rel K B γ' F' H' σ' → Same F F' → D'.bk γ' → Dd.bk σ' H') ∧
  (∀ γ' F' σ' H', Rel K B γ' F' H' σ' → Same F F' → D'.ct γ' → Dd.ct σ' H') ∧ ∀ v F' H' c, Fin K B F' H' v c → D'.rt c → Dd.rt v H'
def DS (X : Cx) (B : Bs) (st : Stmt) (T : XS) : Prop := PS X st (liftS X.K B T)
def DSs (X : Cx) (B : Bs) (st : List Stmt) (T : XS) : Prop := PSs X st (liftS X.K B T)
theorem ps_imp {X : Cx} {st : Stmt} {t t' : TS} (h : PS X st t) (k : ∀ D σ H, t' D σ H → t D σ H) : PS X st t' := ⟨fun pins s σ H D I h' => h.run pins s σ H D I (k _ _ _ h')⟩
theorem pss_imp {X : Cx} {st : List Stmt} {t t' : TS} (h : PSs X st t) (k : ∀ D σ H, t' D σ H → t D σ H) : PSs X st t' := ⟨fun pins s σ H D I h' => h.run pins s σ H D I (k _ _ _ h')⟩
section
variable {X : Cx} {B : Bs} {st : Stmt} {rest a b : List Stmt} {T U : XS} {e : Expr} {TT : XE} {pos pos' : Pos}
@[simp] def sNext : XS := fun D γ => D.nx γ
@[simp] def sSeq (T U : XS) : XS := fun D γ => T { D with nx := fun γ1 => U D γ1 } γ
theorem dss_nil : DSs X B [] sNext := pss_imp pss_nil fun D σ H ⟨γ, F, D', R, hT, k1, k2, k3, k4⟩ => k1 γ F σ H R (Same.refl F) hT
theorem dss_cons (h1 : DS X B st T) (h2 : DSs X B rest U) : DSs X B (st :: rest) (sSeq T U) := pss_imp (pss_cons h1 h2) fun D σ H ⟨γ, F, D', R, hT, k1, k2, k3, k4⟩ =>
  ⟨γ, F, { D' with nx := fun γ1 => U D' γ1 }, R, hT, fun γ' F' σ' H' R' s q => ⟨γ', F', D', R', q, fun γ2 F2 σ2 H2 R2 s2 q2 => k1 γ2 F2 σ2 H2 R2 (s.trans s2) q2, fun γ2 F2 σ2 H2 R2 s2 q2 => k2 γ2 F2 σ2 H2 R2 (s.trans s2) q2,
    fun γ2 F2 σ2 H2 R2 s2 q2 => k3 γ2 F2 σ2 H2 R2 (s.trans s2) q2, k4⟩, k2, k3, k4⟩
theorem dss_one (h : DS X B st T) : DSs X B [st] T := pss_one h
/-- slots frozen ahead of a statement -/
@[simp] def fzAll (γ : List Cell) : List Nat → List Cell
  | [] => γ
  | i :: is => fzAll (γ.set i (frz (γ.getD i .un))) is
@[simp] def sFz (is : List Nat) (T : XS) : XS := fun D γ => T D (fzAll γ is)
theorem rel_fzAll {K : PySem.W.Frag} {γ : List Cell} {F H : Hp} {σ : L2.St} (R : Rel K B γ F H σ) : ∀ is : List Nat, ∃ F', Same F F' ∧ Rel K B (fzAll γ is) F' H σ := by
  intro is
  induction is generalizing γ F with
  | nil => exact ⟨F, Same.refl F, R⟩
  | cons i is ih =>
    obtain ⟨F1, s1, R1⟩ := R.fz i
    obtain ⟨F2, s2, R2⟩ := ih R1
    exact ⟨F2, s1.trans s2, R2⟩
theorem dss_fz (is : List Nat) (h : DSs X B a T) : DSs X B a (sFz is T) := pss_imp h fun D σ H ⟨γ, F, D', R, hT, k1, k2, k3, k4⟩ => by
  obtain ⟨F1, s1, R1⟩ := rel_fzAll R is
  exact ⟨_, F1, D', R1, hT, fun γ2 F2 σ2 H2 R2 s2 q2 => k1 γ2 F2 σ2 H2 R2 (s1.trans s2) q2, fun γ2 F2 σ2 H2 R2 s2 q2 => k2 γ2 F2 σ2 H2 R2 (s1.trans s2) q2, fun γ2 F2 σ2 H2 R2 s2 q2 => k3 γ2 F2 σ2 H2 R2 (s1.trans s2) q2, k4⟩
theorem ds_fz (is : List Nat) (h : DS X B st T) : DS X B st (sFz is T) := ps_imp h fun D σ H ⟨γ, F, D', R, hT, k1, k2, k3, k4⟩ => by
  obtain ⟨F1, s1, R1⟩ := rel_fzAll R is
  exact ⟨_, F1, D', R1, hT, fun γ2 F2 σ2 H2 R2 s2 q2 => k1 γ2 F2 σ2 H2 R2 (s1.trans s2) q2, fun γ2 F2 σ2 H2 R2 s2 q2 => k2 γ2 F2 σ2 H2 R2 (s1.trans s2) q2, fun γ2 F2 σ2 H2 R2 s2 q2 => k3 γ2 F2 σ2 H2 R2 (s1.trans s2) q2, k4⟩
theorem Rel.fin {K : PySem.W.Frag} {γ : List Cell} {F H F' H' : Hp} {σ : L2.St} {v : V} {c : Cell} {fp : List Addr} (R : Rel K B γ F H σ) (g : Go B F H F' H') (cr : CR K B.dd F' H' v c fp) (nd : fp.Nodup) (fr : ∀ a ∈ fp, H a = none ∧ F' a = none) : Fin K B F' H' v c :=
  ⟨R.go.trans g, fp, cr, nd, fun a m => ⟨R.go.none (fr a m).1, (fr a m).2⟩⟩
@[simp] def sRet (T : XE) : XS := fun D γ => T γ D.rt
theorem ds_ret (h : DE X B e TT) : DS X B (.Return (some e) pos) (sRet TT) := ps_imp (ps_ret h) fun D σ H ⟨γ, F, D', R, hT, k1, k2, k3, k4⟩ =>
  ⟨γ, F, _, R, hT, fun v F' H' c fp g sz cr nd fr q => k4 v F' H' c (R.fin g cr nd fr) q⟩
@[simp] def sNever : XS := fun _ _ => False
theorem ds_never : DS X B st sNever := ps_imp ps_never fun D σ H ⟨γ, F, D', R, hT, _⟩ => hT
theorem ds_pass : DS X B (.Pass pos) sNext := ps_imp ps_pass fun D σ H ⟨γ, F, D', R, hT, k1, _⟩ => k1 γ F σ H R (Same.refl F) hT
@[simp] def sBrk : XS := fun D γ => D.bk γ
@[simp] def sCnt : XS := fun D γ => D.ct γ
theorem ds_brk : DS X B (.Break pos) sBrk := ps_imp ps_break fun D σ H ⟨γ, F, D', R, hT, k1, k2, _⟩ => k2 γ F σ H R (Same.refl F) hT
theorem ds_cnt : DS X B (.Continue pos) sCnt := ps_imp ps_continue fun D σ H ⟨γ, F, D', R, hT, k1, k2, k3, _⟩ => k3 γ F σ H R (Same.refl F) hT
@[simp] def sDrop (T : XE) : XS := fun D γ => T γ fun _ => D.nx γ
theorem ds_expr (h : DE X B e TT) (hs : swapsWith e none pos.line X.env = pure false := by rfl) : DS X B (.Expr e pos) (sDrop TT) := ps_imp (ps_expr h hs) fun D σ H ⟨γ, F, D', R, hT, k1, k2, k3, k4⟩ =>
  ⟨γ, F, _, R, hT, fun v F' H' c fp g sz cr nd fr q => k1 γ F' σ H' (R.step g) g.ff q⟩
@[simp] def sIf (C : XT) (T U : XS) : XS := fun D γ => C γ fun b => if b = true then T D γ else U D γ
theorem ds_if {c : Expr} {C : XT} (hc : DT X B c C) (ha : DSs X B a T) (hb : DSs X B b U) : DS X B (.If c a b pos) (sIf C T U) := ps_imp (ps_if hc ha hb) fun D σ H ⟨γ, F, D', R, hT, k1, k2, k3, k4⟩ =>
  ⟨γ, F, _, R, hT, fun d F1 H1 g q => by
    have R1 := R.step g
    have go : ∀ {T : XS}, T D' γ → liftS X.K B T D σ H1 := fun h => ⟨γ, F1, D', R1, h, fun γ2 F2 σ2 H2 R2 s2 q2 => k1 γ2 F2 σ2 H2 R2 (g.ff.trans s2) q2, fun γ2 F2 σ2 H2 R2 s2 q2 => k2 γ2 F2 σ2 H2 R2 (g.ff.trans s2) q2, fun γ2 F2 σ2 H2 R2 s2 q2 => k3 γ2 F2 σ2 H2 R2 (g.ff.trans s2) q2, k4⟩
    cases d with
    | true => exact iteT (go ((if_pos rfl).mp q))
    | false => exact iteF (go ((if_neg Bool.false_ne_true).mp q))⟩
/-- name = e -/
@[simp] def sSet (i : Nat) (T : XE) : XS := fun D γ => T γ fun c => D.nx (γ.set i c)
theorem ds_set {i : Nat} {x : Str} (hN : X.N.Nodup) (h : DE X B e TT) (hi : X.N[i]? = some x := by rfl) (hx : Loc X.env.scope x := by first | exact Or.inl rfl | exact Or.inr rfl) (hs : swapsWith e (some (.Name x pos')) pos.line X.env = pure false := by rfl) (hf : X.fn x = true ∨ X.env.scope.names.lookup x = some .local := by first | exact .inl rfl | exact .inr rfl) :
    DS X B (.Assign [.Name x pos'] e pos) (sSet i TT) := ps_imp (ps_set hN hi hx h hs hf) fun D σ H ⟨γ, F, D', R, hT, k1, k2, k3, k4⟩ =>
  ⟨γ, F, _, R, hT, fun v F' H' c fp g sz cr nd fr q => k1 _ F' _ H' (R.set g cr nd fr i) g.ff q⟩
/-- name = [.. for ..] on one line -/
theorem ds_setLc {i : Nat} {vs : List Nat} {sl : List Nat} {W : XI} {G : XG} {UU : XT} {TE' : XE} (h : PS X st (tAsg (tLc (liftIB X.K B W) (liftG X.K B sl G) (liftT X.K B UU) (liftE X.K B TE') vs) (gName i))) (hsl : ∀ i ∈ sl, i ∈ vs := by decide) :
    DS X B st (sSet i (xLC W G UU TE' vs)) := ps_imp h fun D σ H ⟨γ, F, D', R, hT, k1, k2, k3, k4⟩ =>
  lc_read0 hsl R hT fun v F' H' c fp g cr nd fr q => k1 _ F' _ H' (R.set g cr nd fr i) g.ff q
/-- a, b = e -/
@[simp] def sAsg (T : XE) (G : XG) : XS := fun D γ => T γ fun c => ∃ d, c = .im d ∧ G d γ D.nx
theorem ds_asg {tg : Expr} {G : XG} {sl : List Nat} (h : DE X B e TT) (hg : DG X B tg sl G) (hs : swapsWithSole [tg] e pos.line X.env = pure false := by rfl) (hw : swappedStores [tg] e X.env = pure none := by rfl)
    (h1 : (assignEach [tg] X.env).map (·.2) = [assign tg X.env] := by rfl) : DS X B (.Assign [tg] e pos) (sAsg TT G) := ps_imp (ps_asg h hg hs hw h1) fun D σ H ⟨γ, F, D', R, hT, k1, k2, k3, k4⟩ =>
  ⟨γ, F, _, R, hT, fun v F' H' c fp g sz cr nd fr ⟨d, e, q⟩ => by
    subst e
    cases cr with
    | im h => exact ⟨γ, F', d, _, R.step g, h, q, fun γ' σ' R' _ _ _ q' => k1 γ' F' σ' H' R' g.ff q'⟩⟩
end
end DL
set_option maxHeartbeats 1000000
namespace DL
open PySem PySem.Spec PyProof.Rows L2
section
variable {X : Cx} {B : Bs} {st : Stmt} {rest a b : List Stmt} {T U : XS} {e : Expr} {TT TI' : XE} {pos pos' : Pos} {UA : XA}
def forGo (G : XG) (T : XS) (E : XEnds) : List D → List Cell → Prop
  | [], γ => E.nx γ
  | d :: ds, γ => G d γ fun γ2 => T { E with nx := fun γ3 => forGo G T E ds γ3, ct := fun γ3 => forGo G T E ds γ3, bk := E.nx } γ2
@[simp] def sFor (W : XI) (G : XG) (T : XS) : XS := fun D γ => W γ fun ds => forGo G T D ds γ
theorem ds_for {W : XI} {G : XG} {sl : List Nat} (h : PS X st (tFor (liftIF X.K B W) (liftG X.K B sl G) (liftS X.K B T))) : DS X B st (sFor W G T) :=
  ps_imp h fun Dd σ H ⟨γ, F, D', R, hT, k1, k2, k3, k4⟩ => ⟨γ, F, _, R, hT, fun J F1 H1 ds g1 sz1 src go => by
    refine ⟨fun i m σ H => m = ds.length - i ∧ i ≤ ds.length ∧ ∃ γ F2, Rel X.K B γ F2 H σ ∧ Same F1 F2 ∧ forGo G T D' (ds.drop i) γ, ⟨ds.length, by simp, Nat.zero_le _, γ, F1, R.step g1, Same.refl F1, by simpa using go⟩, ?_⟩
    rintro i m σ2 H2 ⟨rfl, hi, γ2, F2, R2, s12, go2⟩
    by_cases hlt : i < ds.length
    · refine .inr ⟨src.go i F2 H2 s12 R2.sub hlt, fun σ H => i + 1 ≤ ds.length ∧ ∃ γ F2, Rel X.K B γ F2 H σ ∧ Same F1 F2 ∧ forGo G T D' (ds.drop (i + 1)) γ, fun σ' H' hN => ⟨ds.length - (i + 1), by omega, rfl, hN.1, hN.2⟩, fun x H3 y => ?_⟩
      obtain ⟨F3, d, ed, g3, hd⟩ := src.yld i F2 H2 x H3 s12 R2.sub R2.dk hlt y
      have edr : ds.drop i = d :: ds.drop (i + 1) := by
        obtain ⟨z, e⟩ := List.getElem?_eq_some_iff.mp ed
        rw [List.drop_eq_getElem_cons hlt, e]
      rw [edr] at go2
      have s03 : Same F F3 := g1.ff.trans (s12.trans g3.ff)
      refine ⟨γ2, F3, d, _, R2.step g3, hd, go2, fun γ4 σ4 R4 _ _ _ q4 => ⟨γ4, F3, _, R4, q4, fun γ5 F5 σ5 H5 R5 s5 q5 => ⟨hlt, γ5, F5, R5, (s12.trans g3.ff).trans s5, q5⟩, fun γ5 F5 σ5 H5 R5 s5 q5 => k1 γ5 F5 σ5 H5 R5 (s03.trans s5) q5, fun γ5 F5 σ5 H5 R5 s5 q5 => ⟨hlt, γ5, F5, R5, (s12.trans g3.ff).trans s5, q5⟩, k4⟩⟩
    · have e : i = ds.length := by omega
      subst e
      have q : D'.nx γ2 := by simpa [forGo] using go2
      exact .inl ⟨src.stop F2 H2 s12 R2.sub, k1 γ2 F2 σ2 H2 R2 (g1.ff.trans s12) q⟩⟩
def sWhile (C : XT) (T : XS) : XS := fun D γ => ∃ W : Nat → List Cell → Prop, (∃ m, W m γ) ∧ ∀ m γ, W m γ → C γ fun b => if b = true then T { D with nx := fun γ' => ∃ m', m' < m ∧ W m' γ', ct := fun γ' => ∃ m', m' < m ∧ W m' γ', bk := D.nx } γ else D.nx γ
theorem ds_while {C : XT} (h : PS X st (tWhile (liftT X.K B C) (liftS X.K B T))) : DS X B st (sWhile C T) :=
  ps_imp h fun Dd σ H ⟨γ, F, D', R, ⟨W, ⟨m0, w0⟩, turn⟩, k1, k2, k3, k4⟩ => by
    refine ⟨fun m σ H => ∃ γ F2, Rel X.K B γ F2 H σ ∧ Same F F2 ∧ W m γ, ⟨m0, γ, F, R, Same.refl F, w0⟩, ?_⟩
    rintro m σ2 H2 ⟨γ2, F2, R2, s2, w2⟩
    refine ⟨γ2, F2, _, R2, turn m γ2 w2, fun b F3 H3 g q => ?_⟩
    cases b with
    | true =>
      have q' := (if_pos rfl).mp q
      refine iteT ⟨fun σ H => ∃ m', m' < m ∧ ∃ γ F2, Rel X.K B γ F2 H σ ∧ Same F F2 ∧ W m' γ, fun σ' H' ⟨m', hm, hw⟩ => ⟨m', hm, hw⟩, γ2, F3, _, R2.step g, q', fun γ5 F5 σ5 H5 R5 s5 ⟨m', hm, hw⟩ => ⟨m', hm, γ5, F5, R5, (s2.trans g.ff).trans s5, hw⟩,
        fun γ5 F5 σ5 H5 R5 s5 q5 => k1 γ5 F5 σ5 H5 R5 ((s2.trans g.ff).trans s5) q5, fun γ5 F5 σ5 H5 R5 s5 ⟨m', hm, hw⟩ => ⟨m', hm, γ5, F5, R5, (s2.trans g.ff).trans s5, hw⟩, k4⟩
    | false => exact iteF (k1 γ2 F3 σ2 H3 (R2.step g) (s2.trans g.ff) ((if_neg Bool.false_ne_true).mp q))
/-- the object of slot i behind an evaluation, and how it may change -/
theorem Rel.change {K : PySem.W.Frag} {γ : List Cell} {F H F' H' : Hp} {σ : L2.St} (R : Rel K B γ F H σ) (g : Go B F H F' H') {i : Nat} {c : Cell} (e : γ[i]? = some c) (n : c ≠ .un) :
    ∃ v f, σ[i]? = some (some v) ∧ CR K B.dd F' H' v c f ∧ f.Nodup ∧ (∀ a ∈ f, H a ≠ none ∧ F' a = none ∧ a ∉ B.ms) ∧
      ∀ (H2 : Hp) (c' : Cell) (f' : List Addr), (∀ a, a ∉ f → H' a ≠ none → H2 a = H' a) → CR K B.dd F' H2 v c' f' → f'.Nodup → (∀ a ∈ f', a ∈ f ∨ (H a = none ∧ F' a = none)) → Rel K B (γ.set i c') F' H2 σ := by
  have R' := R.step g
  obtain ⟨fp, h1, h2, h3⟩ := R.sl
  have h1' : SlotsR K B.dd F' H' σ γ fp := h1.mono g.ff fun a m o e => g.hh a o (R.fpms (h3 a m).2) e
  have h3' : ∀ a ∈ fp, H a ≠ none ∧ F' a = none := fun a m => by
    obtain ⟨o, z⟩ := h1.there a m
    have hn : H a ≠ none := by rw [z]; exact fun z => by cases z
    exact ⟨hn, g.nw a (h3 a m).1 hn⟩
  obtain ⟨v, f, q1, q2, q3, q4, q5⟩ := h1'.change h2 e n
  refine ⟨v, f, q1, q2, q3, fun a m => ⟨(h3' a (q4 a m)).1, (h3' a (q4 a m)).2, R.fpms (h3 a (q4 a m)).2⟩, fun H2 c' f' keep cr' nd' out => ?_⟩
  have tr : ∀ {a o}, H' a = some o → a ∉ f → H2 a = some o := fun {a o} e nf => by
    rw [keep a nf (by rw [e]; exact fun z => by cases z)]; exact e
  obtain ⟨fp', s1, s2, s3⟩ := q5 F' H2 c' f' (Same.refl F') (fun a m nf => keep a nf (by
    obtain ⟨o, z⟩ := h1'.there a m
    rw [z]; exact fun z => by cases z)) cr' nd' fun a m => by
      rcases out a m with z | z
      · exact .inl z
      · exact .inr fun y => (h3' a y).1 z.1
  refine ⟨⟨R'.go.ff, fun a o m eg => tr (R'.go.hh a o m eg) (fun mf => by rw [(h3 a (q4 a mf)).2] at eg; cases eg), R'.go.nw, fun a o ef => tr (R'.sub a o ef) (fun mf => by rw [(h3' a (q4 a mf)).2] at ef; cases ef), ?_⟩, R'.mf, R'.mg, fp', s1, s2, fun a m => ?_⟩
  · refine R'.dk.keep (fun a m => keep a (fun mf => R.fpms (h3 a (q4 a mf)).2 m) ?_) fun a q e => tr e fun m => q2.noext a m _ e
    obtain ⟨o, z⟩ := R'.dk.there a m
    rw [z]; exact fun z => by cases z
  · rcases s3 a m with z | ⟨z, _⟩
    · rcases out a z with y | ⟨y1, y2⟩
      · exact ⟨(h3' a (q4 a y)).2, (h3 a (q4 a y)).2⟩
      · exact ⟨y2, R.go.none y1⟩
    · exact ⟨(h3' a z).2, (h3 a z).2⟩
/-- x.append(e) -/
@[simp] def sApp (i : Nat) (T : XE) : XS := fun E γ => ∃ cs, γ[i]? = some (.ow cs) ∧ T γ fun c => cs.length < sizeLine ∧ E.nx (γ.set i (.ow (cs ++ [c])))
theorem ds_app {i : Nat} (h : PS X st (tDrop (tBM X.K "list" rAppend (tVar i) (tCons (liftE X.K B TT) tNil)))) : DS X B st (sApp i TT) :=
  ps_imp h fun Dd σ H ⟨γ, F, D', R, ⟨cs, e, hT⟩, k1, k2, k3, k4⟩ => by
    obtain ⟨v, f, h1, h2, h3, h4⟩ := R.get e (by intro z; cases z)
    cases h2 with
    | ow t al =>
      refine ⟨_, h1, .inl ⟨rfl, _, .inl (.inl t)⟩, γ, F, _, R, hT, fun y F1 H1 c f1 g sz cr nd fr ⟨hl, q⟩ => ?_⟩
      obtain ⟨v2, f2, q1, q2, q3, q4, q5⟩ := R.change g e (by intro z; cases z)
      rw [h1] at q1; cases q1
      cases q2 with
      | @ow _ vs2 _ fp2 t2 al2 =>
        refine ⟨_, _, _, rfl, rfl, t2, by rw [al2.length]; exact hl, ?_⟩
        have na : ∀ a ∈ f1, a ∉ _ :: fp2 := fun a m z => (q4 a z).1 (fr a m).1
        refine k1 _ F1 σ _ (q5 _ _ (_ :: (fp2 ++ f1)) (fun a nf _ => upd_ne fun z => nf (by rw [z]; exact List.mem_cons_self)) (.ow upd_same (CRs.app (al2.mono (Same.refl _) fun a m o eo => ?_) (CRs.one (cr.mono (Same.refl _) fun a m o eo => ?_)))) ?_ fun a m => ?_) g.ff q
        · rw [upd_ne fun z => (List.nodup_cons.mp q3).1 (by rw [← z]; exact m)]; exact eo
        · rw [upd_ne fun z => na a m (by rw [z]; exact List.mem_cons_self)]; exact eo
        · refine List.nodup_cons.mpr ⟨fun m => ?_, List.nodup_append.mpr ⟨(List.nodup_cons.mp q3).2, nd, fun a ha b hb e => ?_⟩⟩
          · rcases List.mem_append.mp m with m | m
            · exact (List.nodup_cons.mp q3).1 m
            · exact na _ m List.mem_cons_self
          · subst e; exact na a hb (List.mem_cons_of_mem _ ha)
        · rcases List.mem_cons.mp m with z | m
          · exact .inl (by rw [z]; exact List.mem_cons_self)
          · rcases List.mem_append.mp m with m | m
            · exact .inl (List.mem_cons_of_mem _ m)
            · exact .inr (fr a m)
/-- x.extend(e), e a new list of data -/
@[simp] def sExt (i : Nat) (T : XE) : XS := fun E γ => ∃ cs, γ[i]? = some (.ow cs) ∧ T γ fun c => ∃ es, c = .ow es ∧ cs.length + es.length ≤ sizeLine ∧ E.nx (γ.set i (.ow (cs ++ es)))
theorem ds_ext {i : Nat} (h : PS X st (tDrop (tBM X.K "list" rExtend (tVar i) (tCons (liftE X.K B TT) tNil)))) : DS X B st (sExt i TT) :=
  ps_imp h fun Dd σ H ⟨γ, F, D', R, ⟨cs, e, hT⟩, k1, k2, k3, k4⟩ => by
    obtain ⟨v, f, h1, h2, h3, h4⟩ := R.get e (by intro z; cases z)
    cases h2 with
    | @ow l _ _ _ t al =>
      refine ⟨_, h1, .inl ⟨rfl, _, .inl (.inl t)⟩, γ, F, _, R, hT, fun y F1 H1 c f1 g sz cr nd fr ⟨es, ec, hl, q⟩ => ?_⟩
      subst ec
      obtain ⟨v2, f2, q1, q2, q3, q4, q5⟩ := R.change g e (by intro z; cases z)
      rw [h1] at q1; cases q1
      cases cr with
      | @ow b zs _ fz tz alz =>
        cases q2 with
        | @ow _ vs2 _ fp2 t2 al2 =>
          refine ⟨_, _, _, _, rfl, rfl, t2, tz, by rw [al2.length, alz.length]; exact hl, ?_⟩
          have na : ∀ a ∈ fz, a ∉ l :: fp2 := fun a m z => (q4 a z).1 (fr a (List.mem_cons_of_mem _ m)).1
          refine k1 _ F1 σ _ (q5 _ _ (l :: (fp2 ++ fz)) (fun a nf _ => upd_ne fun z => nf (by rw [z]; exact List.mem_cons_self)) (.ow upd_same (CRs.app (al2.mono (Same.refl _) fun a m o eo => ?_) (alz.mono (Same.refl _) fun a m o eo => ?_))) ?_ fun a m => ?_) g.ff q
          · rw [upd_ne fun z => (List.nodup_cons.mp q3).1 (by rw [← z]; exact m)]; exact eo
          · rw [upd_ne fun z => na a m (by rw [z]; exact List.mem_cons_self)]; exact eo
          · refine List.nodup_cons.mpr ⟨fun m => ?_, List.nodup_append.mpr ⟨(List.nodup_cons.mp q3).2, (List.nodup_cons.mp nd).2, fun a ha b hb e => ?_⟩⟩
            · rcases List.mem_append.mp m with m | m
              · exact (List.nodup_cons.mp q3).1 m
              · exact na _ m List.mem_cons_self
            · subst e; exact na a hb (List.mem_cons_of_mem _ ha)
          · rcases List.mem_cons.mp m with z | m
            · exact .inl (by rw [z]; exact List.mem_cons_self)
            · rcases List.mem_append.mp m with m | m
              · exact .inl (List.mem_cons_of_mem _ m)
              · exact .inr (fr a (List.mem_cons_of_mem _ m))
/-- x[k] = e -/
@[simp] def sSetIx (i : Nat) (TI TT : XE) : XS := fun E γ => TT γ fun c => ∃ cs, γ[i]? = some (.ow cs) ∧ TI γ fun k => ∃ n j, k = .im (.int n) ∧ ixN cs.length n = some j ∧ E.nx (γ.set i (.ow (cs.set j c)))
theorem ds_setIx {i : Nat} (h : PS X st (tAsg (liftE X.K B TT) (gSub (tVar i) (liftR X.K B TI') rSetL))) : DS X B st (sSetIx i TI' TT) :=
  ps_imp h fun Dd σ H ⟨γ, F, D', R, hT, k1, k2, k3, k4⟩ => ⟨γ, F, _, R, hT, fun y F1 H1 c f1 g sz cr nd fr ⟨cs, e, hI⟩ => by
    have R1 := R.step g
    obtain ⟨v, f, h1, h2, h3, h4⟩ := R1.get e (by intro z; cases z)
    refine ⟨v, h1, γ, F1, _, R1, hI, fun k F2 H2 ck fk g2 szk crk frk ⟨n, j, ek, hj, q⟩ => ?_⟩
    subst ek
    rw [crk.int]
    obtain ⟨v2, f2, q1, q2, q3, q4, q5⟩ := R.change (g.trans g2) e (by intro z; cases z)
    rw [h1] at q1; cases q1
    cases q2 with
    | @ow l vs2 _ fp2 t2 al2 =>
      refine ⟨_, _, n, j, rfl, rfl, t2, by rw [al2.length]; exact hj, ?_⟩
      have fr2 : ∀ a ∈ f1, H a = none ∧ F2 a = none := fun a m => ⟨(fr a m).1, g2.nw a (fr a m).2 (by
        obtain ⟨o, z⟩ := cr.there a m
        rw [z]; exact fun z => by cases z)⟩
      have cr2 : CR X.K B.dd F2 H2 y c f1 := cr.mono g2.ff fun a m o eo => g2.hh a o (not_ms R.dk (fr a m).1) eo
      have na : ∀ a ∈ f1, a ∉ l :: fp2 := fun a m z => (q4 a z).1 (fr a m).1
      have cru : CR X.K B.dd F2 (upd H2 l (.lst (vs2.set j y))) y c f1 := cr2.mono (Same.refl _) fun a m o eo => by
        rw [upd_ne fun z => na a m (by rw [z]; exact List.mem_cons_self)]; exact eo
      obtain ⟨fp', w1, w2, w3⟩ := CRs.set cru j (al2.mono (Same.refl _) (H' := upd H2 l (.lst (vs2.set j y))) fun a m o eo => by
        rw [upd_ne fun z => (List.nodup_cons.mp q3).1 (by rw [← z]; exact m)]; exact eo)
      refine k1 _ F2 σ _ (q5 _ _ (l :: fp') (fun a nf _ => upd_ne fun z => nf (by rw [z]; exact List.mem_cons_self)) (.ow upd_same w1) ?_ fun a m => ?_) (g.trans g2).ff q
      · refine List.nodup_cons.mpr ⟨fun m => ?_, w3 (List.nodup_append.mpr ⟨nd, (List.nodup_cons.mp q3).2, fun a ha b hb e => ?_⟩)⟩
        · rcases w2 _ m with m | m
          · exact na _ m List.mem_cons_self
          · exact (List.nodup_cons.mp q3).1 m
        · subst e; exact na a ha (List.mem_cons_of_mem _ hb)
      · rcases List.mem_cons.mp m with z | m
        · exact .inl (by rw [z]; exact List.mem_cons_self)
        · rcases w2 a m with m | m
          · exact .inr (fr2 a m)
          · exact .inl (List.mem_cons_of_mem _ m)⟩
end
end DL
set_option maxHeartbeats 1000000
namespace DL
open PySem PySem.Spec PyProof.Rows L2
/-- what a def does: its arguments' cells, what is wanted of its result -/
abbrev FS := List Cell → (Cell → Prop) → Prop
def exc (H : Hp) (fp : List Addr) : Hp := fun a => if a ∈ fp then none else H a
theorem exc_in {H : Hp} {fp : List Addr} {a : Addr} (h : a ∈ fp) : exc H fp a = none := by unfold exc; rw [if_pos h]
theorem exc_out {H : Hp} {fp : List Addr} {a : Addr} (h : a ∉ fp) : exc H fp a = H a := by unfold exc; rw [if_neg h]
def spOf (K : PySem.W.Frag) (dn : Dn) (S : FS) : Sp := fun vs H Q _ => ∃ F da cs fp K', Same F H ∧ DeckOk ⟨H, F, da, dn⟩ H ∧ (∀ a ∈ (Bs.mk H F da dn).ms, F a = none ∧ a ∉ fp) ∧
  CRs K (da.map (·.1)) F H vs cs fp ∧ fp.Nodup ∧ (∀ a ∈ fp, F a = none) ∧ S cs K' ∧ ∀ v F' H' c, Fin K ⟨exc H fp, F, da, dn⟩ F' H' v c → K' c → Q v H'
section
variable {P : Program} {w : World} {K : PySem.W.Frag} {mg : Str → Option Value} {base : Heap}
theorem fn_ok {x qual : Str} {st : Stmt} {f : Addr} {fd : FuncData} {N ps : List Str} {k : Nat} {dn : Dn} {S : FS} {T : XS} (F : Fun K x qual st f fd) (Sc : FnScope N ps (defScope st)) (len : ∀ cs K', S cs K' → cs.length = ps.length)
    (body : ∀ (cdv : Value) (A : Around) (outer : List Env) (s : Shared) (H : Hp) (E : XK) (B : Bs), B.dn = dn → Room k (A.deeper (envOfC qual (defScope st) s.heap.objs.size f cdv)) → DSs (cxOf CX0 P w K mg base N qual (defScope st) f cdv A outer s H E).nox B (defBody st) T)
    (main : ∀ cs K', S cs K' → T { nx := fun _ => K' (.im .none), rt := K' } (cs ++ List.replicate (N.length - cs.length) .un)) : FnOk P w K mg base CX0 (k + 1) f fd ps (spOf K dn S) := by
  refine F.ok Sc (fun vs H Q E ⟨F0, da, cs, fp, K', _, _, _, crs, _, _, hS, _⟩ => by rw [crs.length]; exact len cs K' hS) (fun cdv A outer s H vs Q E hr ⟨F0, da, cs, fp, K', sm, dk, mf, crs, nd, hF, hS, k1⟩ => ?_)
  refine ⟨_, body cdv A outer s H E ⟨exc H fp, F0, da, dn⟩ rfl hr, ?_⟩
  have hl : cs.length = ps.length := len cs K' hS
  have dk' : DeckOk ⟨exc H fp, F0, da, dn⟩ H := dk
  have g0 : Go ⟨exc H fp, F0, da, dn⟩ F0 (exc H fp) F0 H := ⟨Same.refl _, fun a o _ e => by
    by_cases m : a ∈ fp
    · rw [exc_in m] at e; cases e
    · rwa [exc_out m] at e, fun a e _ => e, sm, dk'⟩
  have R : Rel K ⟨exc H fp, F0, da, dn⟩ (cs ++ List.replicate (N.length - cs.length) .un) F0 H (L2.start N vs) := by
    refine ⟨g0, fun a m => (mf a m).1, fun a m => ?_, fp, ?_, nd, fun a m => ⟨hF a m, exc_in m⟩⟩
    · show exc H fp a ≠ none
      rw [exc_out (mf a m).2]
      obtain ⟨o, e⟩ := dk.there a m
      rw [e]; exact fun z => by cases z
    · have := SlotsR.ofCRs (N.length - cs.length) crs
      unfold L2.start
      rw [crs.length]
      exact this
  exact ⟨_, F0, _, R, main cs K' hS, fun γ' F' σ' H' R' _ q => k1 .non F' H' (.im .none) ⟨R'.go, [], .im .non, List.nodup_nil, fun _ m => nomatch m⟩ q, fun _ _ _ _ _ _ z => z.elim, fun _ _ _ _ _ _ z => z.elim, fun v F' H' c fin q => k1 v F' H' c fin q⟩
end
section
variable {X : Cx} {B : Bs} {st : Stmt} {rest a b : List Stmt} {T U : XS} {e : Expr} {TT TI' : XE} {pos pos' : Pos} {UA UB : XA}
@[simp] def xCall (S : FS) (U : XA) : XE := fun γ K => U γ fun cs => S cs K
theorem call_core {S : FS} {σ : L2.St} {H : Hp} {Q : VK} {γ : List Cell} {F : Hp} {Q' : Cell → Prop} (R : Rel X.K B γ F H σ) (k : Gives X.K B F H Q' Q) {vs : List V} {F1 H1 : Hp} {cs : List Cell} {fp : List Addr} (g : Go B F H F1 H1) (crs : CRs X.K B.dd F1 H1 vs cs fp) (nd : fp.Nodup)
    (fr : ∀ a ∈ fp, H a = none ∧ F1 a = none) (q : S cs Q') : spOf X.K B.dn S vs H1 (fun v H' => SzH X.K H' → Q v H') E0 := by
  refine ⟨F1, B.da, cs, fp, Q', g.sub, g.dk, fun a m => ⟨(R.step g).mf a m, fun z => not_ms R.dk (fr a z).1 m⟩, crs, nd, fun a m => (fr a m).2, q, fun v F' H' c ⟨go, fp', cr, nd', fr'⟩ q' sz => ?_⟩
  have np : ∀ {a}, H a ≠ none → a ∉ fp := fun h m => h (fr _ m).1
  refine k v F' H' c fp' ⟨g.ff.trans go.ff, fun a o m e => go.hh a o m ?_, fun a e n => go.nw a (g.nw a e n) ?_, go.sub, go.dk⟩ sz cr nd' (fun a m => ⟨?_, (fr' a m).2⟩) q'
  · show exc H1 fp a = some o
    rw [exc_out (np (by rw [e]; exact fun z => by cases z))]
    exact g.hh a o m e
  · show exc H1 fp a ≠ none
    rw [exc_out (np n)]
    exact g.there n
  · have z := (fr' a m).1
    by_cases ma : a ∈ fp
    · exact (fr a ma).1
    · have z' : exc H1 fp a = none := z
      rw [exc_out ma] at z'
      exact g.none z'
theorem de_call {S : FS} (h : PE X e (tCall (spOf X.K B.dn S) [] E0 (liftA X.K B UA))) : DE X B e (xCall S UA) :=
  pe_imp h fun σ H Q ⟨γ, F, Q', R, hT, k⟩ _ => ⟨γ, F, _, R, hT, fun vs F1 H1 cs fp g crs nd fr q => by
    show spOf X.K B.dn S (vs ++ []) H1 _ _
    rw [List.append_nil]
    exact call_core R k g crs nd fr q⟩
theorem de_call0 {S : FS} (h : PE X e (tCall (spOf X.K B.dn S) [] E0 tNil)) : DE X B e (xCall S xNil) :=
  pe_imp h fun σ H Q ⟨γ, F, Q', R, hT, k⟩ _ => call_core R k R.refl .nil List.nodup_nil (fun _ m => nomatch m) hT
/-- keywords alone: the parameters' values out of the keywords' -/
@[simp] def pickV {α : Type} (d : α) (is : List Nat) (vs : List α) : List α := is.map fun i => vs.getD i d
theorem crs_pick {K : PySem.W.Frag} {da : Option Addr} {F H : Hp} {vs : List V} {cs : List Cell} {fp : List Addr} (h : CRs K da F H vs cs fp) (fl : ∀ c ∈ cs, c.flat = true) : ∀ {is : List Nat}, CRs K da F H (pickV .non is vs) (pickV .un is cs) []
  | [] => .nil
  | i :: is => by
    have ih := crs_pick h fl (is := is)
    refine CRs.cons (f := []) ?_ ih
    show CR K da F H (vs.getD i .non) (cs.getD i .un) []
    rw [List.getD_eq_getElem?_getD, List.getD_eq_getElem?_getD]
    cases e : cs[i]? with
    | none =>
      have : vs[i]? = none := by
        rw [List.getElem?_eq_none_iff] at e ⊢
        rw [h.length]; exact e
      rw [this]; exact .un
    | some c =>
      obtain ⟨v, f, e1, cr, _⟩ := h.get e
      have := cr.flat (fl c (List.mem_of_getElem? e))
      subst this
      rw [e1]; exact cr
theorem vals_pick {vs : List V} {us : List Value} (h : Vals vs us) : ∀ {is : List Nat}, Vals (pickV .non is vs) (pickV .none is us)
  | [] => .nil
  | i :: is => by
    refine .cons ?_ (vals_pick h (is := is))
    show RelV (vs.getD i .non) (us.getD i .none)
    rw [List.getD_eq_getElem?_getD, List.getD_eq_getElem?_getD]
    cases e : vs[i]? with
    | none =>
      have : us[i]? = none := by
        rw [List.getElem?_eq_none_iff] at e ⊢
        rw [← h.length]; exact e
      rw [this]; exact rfl
    | some c =>
      obtain ⟨u, e1, r⟩ := h.get e
      rw [e1]; exact r
theorem pe_callK0 {CX : CXT} {k : Nat} {f : Addr} {fd : FuncData} {ps ks : List Str} {sp : Sp} {E : XK} {x : Str} {p pos : Pos} {kws : List Keyword} {tk : TA} {is : List Nat} (F : FnOk X.prog X.w X.K X.mg X.base CX k f fd ps sp) (hr : Room k X.A) (hg : Gl X x) (hm : X.mg x = some (.ref f)) (hk : PySem.W.keepIn X.K (.ref f) = true)
    (hb : ∀ ws : List Value, ws.length = ks.length → bindArgs fd ⟨[], ks.zip ws⟩ = pure (ps.zip (pickV .none is ws))) (hx : Passes CX X E) (hlen : is.length = ps.length) (hkl : kws.length = ks.length)
    (hkw : PK X kws tk) (hall : (backToKw pos (keywordEach kws X.env)).all (·.1.isSome) = true := by rfl) (hks : (backToKw pos (keywordEach kws X.env)).filterMap (·.1) = ks := by rfl)
    (hdb : (x == ("__debug__" : Str)) = false := by decide)
    (hpl : ((backTo pos (starEach [] X.env)).any (·.1) || (backToKw pos (keywordEach kws X.env)).any (·.1.isNone)) = false := by rfl) :
    PE X (.Call (.Name x p) [] kws pos) (fun σ H Q => tk σ H fun zs H2 => zs.length = ks.length ∧ sp (pickV .non is zs) H2 Q E) := by
  refine ⟨fun pins s σ H Q I h => ?_⟩
  refine wpAny_Call_Name_kw (ld_glob I hg hm ?_ hdb)
  refine PySem.W.callWith_KW0 (h₀ := X.base) I.ok.mod.kin hk hall (thn (hkw.run pos pins s σ H _ I h) fun ws s2 ⟨zs, H2, I2, rz, hz, q2⟩ => ⟨I2.kIn, ?_⟩) hpl
  rw [hks]
  have r2 := vals_pick rz (is := is)
  refine wpAny_call (codeAny_mono (F.run X.A X.stack s2 H2 ⟨[] ++ [], ks.zip ws⟩ (pickV .none is ws) (pickV .non is zs) Q E hr I2.env0 (.of_eq (hb ws (by rw [← rz.length]; exact hz))) r2 q2) fun r s' hq => ?_)
  cases r with
  | error e => exact hx pins σ H2 s2 e s' I2 hq
  | ok fl =>
    cases fl with
    | ret u => exact I2.after hq
    | next => exact False.elim hq
    | brk => exact False.elim hq
    | cont => exact False.elim hq
/-- the keywords' values, kept -/
def DK (X : Cx) (B : Bs) (kws : List Keyword) (T : XA) : Prop := PK X kws (liftA X.K B T)
theorem pk_imp {kws : List Keyword} {t t' : TA} (h : PK X kws t) (k : ∀ σ H Q, t' σ H Q → t σ H Q) : PK X kws t' :=
  ⟨fun pos pins s σ H Q I q => h.run pos pins s σ H Q I (k _ _ _ q)⟩
theorem dk_nil : DK X B [] xNil := pk_imp pk_nil fun σ H Q ⟨γ, F, Q', R, hT, k⟩ => k [] F H [] [] R.refl .nil List.nodup_nil (fun _ m => nomatch m) hT
theorem dk_cons {kws : List Keyword} {T : XE} {U : XA} {nm : Option Str} {kpos : Pos} (h : DE X B e T) (hr : DK X B kws U) : DK X B (⟨nm, e, kpos⟩ :: kws) (xCons T U) :=
  pk_imp (pk_cons h hr) fun σ H Q ⟨γ, F, Q', R, hT, k⟩ => ⟨γ, F, _, R, hT, fun v F1 H1 c f g1 sz cr nd fr q => ⟨γ, F1, _, R.step g1, q, fun vs F2 H2 cs fp g2 crs nds frs q2 => by
    have d1 := R.dk
    refine k (v :: vs) F2 H2 (c :: cs) (f ++ fp) (g1.trans g2) (.cons (cr.mono g2.ff fun a m o e => g2.hh a o (not_ms d1 (fr a m).1) e) crs) ?_ (fun a m => ?_) q2
    · refine List.nodup_append.mpr ⟨nd, nds, fun a ha b hb e => ?_⟩
      subst e
      obtain ⟨o, z⟩ := cr.there a ha
      rw [(frs a hb).1] at z; cases z
    · rcases List.mem_append.mp m with m | m
      · refine ⟨(fr a m).1, g2.nw a (fr a m).2 ?_⟩
        obtain ⟨o, z⟩ := cr.there a m
        rw [z]; exact fun z => by cases z
      · exact ⟨g1.none (frs a m).1, (frs a m).2⟩⟩⟩
@[simp] def xCallK (S : FS) (n : Nat) (is : List Nat) (U : XA) : XE := fun γ K => U γ fun cs => cs.length = n ∧ (∀ c ∈ cs, c.flat = true) ∧ S (pickV .un is cs) K
theorem de_callK {S : FS} {n : Nat} {is : List Nat} (h : PE X e (fun σ H Q => liftA X.K B UA σ H fun zs H2 => zs.length = n ∧ spOf X.K B.dn S (pickV .non is zs) H2 Q E0)) : DE X B e (xCallK S n is UA) :=
  pe_imp h fun σ H Q ⟨γ, F, Q', R, hT, k⟩ _ => ⟨γ, F, _, R, hT, fun vs F1 H1 cs fp g crs nd fr ⟨hn, fl, q⟩ => ⟨crs.length.trans hn, call_core R k g (crs_pick crs fl) List.nodup_nil (fun _ m => nomatch m) q⟩⟩
@[simp] def setAll (γ : List Cell) : List Nat → List Cell → List Cell
  | i :: is, c :: cs => setAll (γ.set i c) is cs
  | _, _ => γ
@[simp] def sPar (is : List Nat) (U : XA) : XS := fun E γ => U γ fun cs => cs.length = is.length ∧ E.nx (setAll γ is cs)
def setSt (σ : L2.St) : List Nat → List V → L2.St
  | i :: is, v :: vs => setSt (σ.set i (some v)) is vs
  | _, _ => σ
theorem rel_setAll {K : PySem.W.Frag} {γ : List Cell} {F H F' H' : Hp} {σ : L2.St} (R : Rel K B γ F H σ) (g : Go B F H F' H') : ∀ {is : List Nat} {vs : List V} {cs : List Cell} {fp : List Addr}, CRs K B.dd F' H' vs cs fp → fp.Nodup → (∀ a ∈ fp, H a = none ∧ F' a = none) → Rel K B (setAll γ is cs) F' H' (setSt σ is vs) := by
  have key : ∀ {is : List Nat} {vs : List V} {cs : List Cell} {fp : List Addr} {γ : List Cell} {σ : L2.St}, (∃ fq, SlotsR K B.dd F' H' σ γ fq ∧ fq.Nodup ∧ (∀ a ∈ fq, F' a = none ∧ B.G a = none) ∧ ∀ a ∈ fp, a ∉ fq) → CRs K B.dd F' H' vs cs fp → fp.Nodup → (∀ a ∈ fp, H a = none ∧ F' a = none) →
      ∃ fq, SlotsR K B.dd F' H' (setSt σ is vs) (setAll γ is cs) fq ∧ fq.Nodup ∧ ∀ a ∈ fq, F' a = none ∧ B.G a = none := by
    intro is
    induction is with
    | nil => intro vs cs fp γ σ ⟨fq, h1, h2, h3, _⟩ _ _ _; exact ⟨fq, by cases vs <;> cases cs <;> exact h1, h2, h3⟩
    | cons i is ih =>
      intro vs cs fp γ σ ⟨fq, h1, h2, h3, h4⟩ crs nd fr
      cases crs with
      | nil => exact ⟨fq, h1, h2, h3⟩
      | @cons v vs c cs f fp cr crs =>
        obtain ⟨n1, n2, n3⟩ := List.nodup_append.mp nd
        obtain ⟨fr', w1, w2, w3⟩ := h1.set cr i
        refine ih ⟨fr', w1, w3 (List.nodup_append.mpr ⟨n1, h2, fun a ha b hb e => h4 a (List.mem_append_left _ ha) (e ▸ hb)⟩), fun a m => ?_, fun a m z => ?_⟩ crs n2 fun a m => fr a (List.mem_append_right _ m)
        · rcases w2 a m with y | y
          · exact ⟨(fr a (List.mem_append_left _ y)).2, R.go.none (fr a (List.mem_append_left _ y)).1⟩
          · exact h3 a y
        · rcases w2 a z with y | y
          · exact n3 a y a m rfl
          · exact h4 a (List.mem_append_right _ m) y
  intro is vs cs fp crs nd fr
  have R' := R.step g
  obtain ⟨fq, h1, h2, h3⟩ := R.sl
  have t1 : ∀ a ∈ fq, H a ≠ none := fun a m => by
    obtain ⟨o, z⟩ := h1.there a m
    rw [z]; exact fun z => by cases z
  obtain ⟨fr', w1, w2, w3⟩ := key (is := is) ⟨fq, h1.mono g.ff fun a m o e => g.hh a o (R.fpms (h3 a m).2) e, h2, fun a m => ⟨g.nw a (h3 a m).1 (t1 a m), (h3 a m).2⟩, fun a m z => t1 a z (fr a m).1⟩ crs nd fr
  exact ⟨R'.go, R'.mf, R'.mg, fr', w1, w2, w3⟩
theorem len2 {α : Type} {l : List α} (h : l.length = 2) : ∃ a b, l = [a, b] := match l, h with | [a, b], _ => ⟨a, b, rfl⟩
theorem len3 {α : Type} {l : List α} (h : l.length = 3) : ∃ a b c, l = [a, b, c] := match l, h with | [a, b, c], _ => ⟨a, b, c, rfl⟩
theorem ds_par2 {i j : Nat} (h : PS X st (tPar i j (liftA X.K B UA))) : DS X B st (sPar [i, j] UA) := ps_imp h fun Dd σ H ⟨γ, F, D', R, hT, k1, k2, k3, k4⟩ => ⟨γ, F, _, R, hT, fun vs F1 H1 cs fp g crs nd fr ⟨hl, q⟩ => by
  obtain ⟨v, w, rfl⟩ := len2 (crs.length.trans hl)
  exact ⟨v, w, rfl, k1 _ F1 _ H1 (rel_setAll R g (is := [i, j]) crs nd fr) g.ff q⟩⟩
theorem ds_par3 {i j l : Nat} (h : PS X st (tPar3 i j l (liftA X.K B UA))) : DS X B st (sPar [i, j, l] UA) := ps_imp h fun Dd σ H ⟨γ, F, D', R, hT, k1, k2, k3, k4⟩ => ⟨γ, F, _, R, hT, fun vs F1 H1 cs fp g crs nd fr ⟨hl, q⟩ => by
  obtain ⟨u, v, w, rfl⟩ := len3 (crs.length.trans hl)
  exact ⟨u, v, w, rfl, k1 _ F1 _ H1 (rel_setAll R g (is := [i, j, l]) crs nd fr) g.ff q⟩⟩
/-- .. by a tuple that is made and unpacked -/
def gNames : List Nat → TGs
  | [] => gNil
  | i :: is => L2.gCons (gName i) (gNames is)
theorem gNames_go {is : List Nat} : ∀ {vs : List V} {σ : L2.St} {H : Hp} {Q : L2.St → Hp → Prop}, vs.length = is.length → Q (setSt σ is vs) H → gNames is vs σ H Q := by
  induction is with
  | nil => intro vs σ H Q hl q; cases vs with
    | nil => exact ⟨rfl, q⟩
    | cons _ _ => simp at hl
  | cons i is ih => intro vs σ H Q hl q; cases vs with
    | nil => simp at hl
    | cons v vs => exact ⟨v, vs, rfl, ih (by simpa using hl) q⟩
theorem ds_parN {is : List Nat} {n : Nat} (h : PS X st (tAsg (tTup (liftA X.K B UA)) (gTup X.K n (gNames is)))) (hn : is.length = n := by rfl) (hs : n ≤ 1000 := by decide) : DS X B st (sPar is UA) := ps_imp h fun Dd σ H ⟨γ, F, D', R, hT, k1, k2, k3, k4⟩ => ⟨γ, F, _, R, hT, fun vs F1 H1 cs fp g crs nd fr ⟨hl, q⟩ => by
  have hv := crs.length
  refine ⟨Nat.le_of_lt (small1000 (by omega)), fun p np => ?_⟩
  have g2 := Go.new (B := B) (o := .tup vs) g.sub g.dk np
  have g3 := g.trans g2
  refine ⟨p, vs, rfl, .inl (.inl upd_same), by omega, gNames_go (by omega) (k1 _ F1 _ _ (rel_setAll R g3 (is := is) (crs.mono (Same.refl _) fun a m o e => g2.hh a o (not_ms R.dk (fr a m).1) e) nd fr) g.ff q)⟩⟩
/-- x += e of ints -/
@[simp] def sAug (i : Nat) (f : Int → Int → Int) (T : XE) : XS := fun E γ => ∃ m, γ[i]? = some (.im (.int m)) ∧ T γ fun c => ∃ n, c = .im (.int n) ∧ E.nx (γ.set i (.im (.int (f m n))))
theorem ds_aug {i : Nat} {f : Int → Int → Int} (h : PS X st (tAug i (liftR X.K B TT) (ipI f))) : DS X B st (sAug i f TT) := ps_imp h fun Dd σ H ⟨γ, F, D', R, ⟨m, e, hT⟩, k1, k2, k3, k4⟩ => by
  obtain ⟨v, ff, h1, h2, h3, h4⟩ := R.get e (by intro z; cases z)
  refine ⟨v, h1, γ, F, _, R, hT, fun y F1 H1 c f1 g sz cr fr ⟨n, ec, q⟩ => ?_⟩
  subst ec
  rw [cr.int, h2.int]
  exact ⟨m, n, rfl, rfl, k1 _ F1 _ H1 ((R.step g).setD (.int _) i) g.ff q⟩
end
end DL
set_option maxHeartbeats 1000000
namespace DL
open PySem PySem.Spec PyProof.Rows L2
abbrev FnP (K : PySem.W.Frag) (x : Str) (st : Stmt) (f : Addr) (fd : FuncData) : Prop := FunD K x x (defArgs st) (defBody st) (defScope st) [] [] f fd
/-- a def that keeps S -/
structure Cal (P : Program) (w : World) (K : PySem.W.Frag) (mg : Str → Option Value) (base : Heap) (dn : Dn) (k : Nat) (x : Str) (st : Stmt) (ps : List Str) (S : FS) : Prop where
  ex : ∃ f fd, mg x = some (.ref f) ∧ FnP K x st f fd ∧ Binds K fd ps [] ∧ FnOk P w K mg base CX0 k f fd ps (spOf K dn S)
section
variable {P : Program} {w : World} {K : PySem.W.Frag} {mg : Str → Option Value} {base : Heap}
theorem fn_okD {x : Str} {st : Stmt} {f : Addr} {fd : FuncData} {N ps : List Str} {k : Nat} {dn : Dn} {S : FS} {T : XS} (F : FnP K x st f fd) (Sc : FnScope N ps (defScope st)) (len : ∀ cs K', S cs K' → cs.length = ps.length)
    (body : ∀ (cdv : Value) (A : Around) (outer : List Env) (s : Shared) (H : Hp) (E : XK) (B : Bs), B.dn = dn → Room k (A.deeper (envOfC x (defScope st) s.heap.objs.size f cdv)) → DSs (cxOf CX0 P w K mg base N x (defScope st) f cdv A outer s H E).nox B (defBody st) T)
    (main : ∀ cs K', S cs K' → T { nx := fun _ => K' (.im .none), rt := K' } (cs ++ List.replicate (N.length - cs.length) .un)) : FnOk P w K mg base CX0 (k + 1) f fd ps (spOf K dn S) := by
  refine F.ok Sc (fun vs H Q E ⟨F0, da, cs, fp, K', _, _, _, crs, _, _, hS, _⟩ => by rw [crs.length]; exact len cs K' hS) (fun cdv A outer s H vs Q E hr ⟨F0, da, cs, fp, K', sm, dk, mf, crs, nd, hF, hS, k1⟩ => ?_)
  refine ⟨_, (PSs.nox (body cdv A outer s H E ⟨exc H fp, F0, da, dn⟩ rfl hr)), ?_⟩
  have hl : cs.length = ps.length := len cs K' hS
  have dk' : DeckOk ⟨exc H fp, F0, da, dn⟩ H := dk
  have g0 : Go ⟨exc H fp, F0, da, dn⟩ F0 (exc H fp) F0 H := ⟨Same.refl _, fun a o _ e => by
    by_cases m : a ∈ fp
    · rw [exc_in m] at e; cases e
    · rwa [exc_out m] at e, fun a e _ => e, sm, dk'⟩
  have R : Rel K ⟨exc H fp, F0, da, dn⟩ (cs ++ List.replicate (N.length - cs.length) .un) F0 H (L2.start N vs) := by
    refine ⟨g0, fun a m => (mf a m).1, fun a m => ?_, fp, ?_, nd, fun a m => ⟨hF a m, exc_in m⟩⟩
    · show exc H fp a ≠ none
      rw [exc_out (mf a m).2]
      obtain ⟨o, e⟩ := dk.there a m
      rw [e]; exact fun z => by cases z
    · have := SlotsR.ofCRs (N.length - cs.length) crs
      unfold L2.start
      rw [crs.length]
      exact this
  exact ⟨_, F0, _, R, main cs K' hS, fun γ' F' σ' H' R' _ q => k1 .non F' H' (.im .none) ⟨R'.go, [], .im .non, List.nodup_nil, fun _ m => nomatch m⟩ q, fun _ _ _ _ _ _ z => z.elim, fun _ _ _ _ _ _ z => z.elim, fun v F' H' c fin q => k1 v F' H' c fin q⟩
end
section
variable {X : Cx} {B : Bs} {e a b : Expr} {es rest : List Expr} {T Ta Tb TT : XE} {U UA : XA} {pos p : Pos} {S : FS} {k k' : Nat} {x : Str} {st : Stmt} {ps : List Str}
theorem Cal.de (C : Cal X.prog X.w X.K X.mg X.base B.dn k x st ps S) (hr : Room k' X.A) (hk : k ≤ k') (hg : Gl X x) (ha : DA X B (e :: es) UA) (hdb : (x == ("__debug__" : Str)) = false := by decide)
    (he : starEach (e :: es) X.env = (false, eval e X.env) :: starEach es X.env := by rfl) (hpl : (backTo pos (starEach es X.env)).any (·.1) = false := by rfl) : DE X B (.Call (.Name x p) (e :: es) [] pos) (xCall S UA) := by
  obtain ⟨f, fd, hm, F, hb, hF⟩ := C.ex
  exact de_call (pe_call hF (hr.mono hk) hg hm F.kp hb .nil pass0 ha hdb he hpl)
theorem Cal.de0 (C : Cal X.prog X.w X.K X.mg X.base B.dn k x st ps S) (hr : Room k' X.A) (hk : k ≤ k') (hg : Gl X x) (hdb : (x == ("__debug__" : Str)) = false := by decide) : DE X B (.Call (.Name x p) [] [] pos) (xCall S xNil) := by
  obtain ⟨f, fd, hm, F, hb, hF⟩ := C.ex
  exact de_call0 (pe_call0 hF (hr.mono hk) hg hm F.kp hb .nil pass0 hdb)
theorem Cal.deK {kws : List Keyword} {ks : List Str} {is : List Nat} (C : Cal X.prog X.w X.K X.mg X.base B.dn k x st ps S) (hr : Room k' X.A) (hk : k ≤ k') (hg : Gl X x)
    (hb : ∀ (kV doc pm : Value) (an : Option Addr) (cdv ct : Value) (ws : List Value), ws.length = ks.length → bindArgs (PySem.W.fnOf x x (defArgs st) (defBody st) (defScope st) .none kV doc pm an cdv ct) ⟨[], ks.zip ws⟩ = pure (ps.zip (pickV .none is ws)))
    (hlen : is.length = ps.length) (hkl : kws.length = ks.length) (ha : DK X B kws UA) (hall : (backToKw pos (keywordEach kws X.env)).all (·.1.isSome) = true := by rfl) (hks : (backToKw pos (keywordEach kws X.env)).filterMap (·.1) = ks := by rfl)
    (hdb : (x == ("__debug__" : Str)) = false := by decide) (hpl : ((backTo pos (starEach [] X.env)).any (·.1) || (backToKw pos (keywordEach kws X.env)).any (·.1.isNone)) = false := by rfl) :
    DE X B (.Call (.Name x p) [] kws pos) (xCallK S ks.length is UA) := by
  obtain ⟨f, fd, hm, F, _, hF⟩ := C.ex
  have kp := F.kp
  obtain ⟨oc, od, dV, kV, doc, pm, an, cdv, ct, osl, rfl, lk, hcd, hD, hK⟩ := F.ex
  rcases hD with ⟨_, rfl⟩ | ⟨z, _⟩
  · exact de_callK (pe_callK0 (is := is) hF (hr.mono hk) hg hm kp (hb kV doc pm an cdv ct) pass0 hlen hkl ha hall hks hdb hpl)
  · exact absurd rfl z
@[simp] def sRetV (i : Nat) : XS := fun D γ => ∃ c, γ[i]? = some c ∧ c ≠ .un ∧ D.rt c
theorem ds_retv {i : Nat} (h : PS X st (tRet (tVar i))) : DS X B st (sRetV i) := ps_imp h fun D σ H ⟨γ, F, D', R, ⟨c, e, n, q⟩, k1, k2, k3, k4⟩ => by
  obtain ⟨fp, h1, h2, h3⟩ := R.sl
  obtain ⟨v, f, g1, g2, g3, g4⟩ := h1.get e n
  exact ⟨v, g1, k4 v F H c ⟨R.go, f, g2, g4 h2, fun a m => ⟨(h3 a (g3 a m)).2, (h3 a (g3 a m)).1⟩⟩ q⟩
@[simp] def bitIs : Cell → D → Option Bool
  | .im .none, .none => some true
  | .im (.bool a), .bool b => some (decide (a = b))
  | .un, _ => none
  | _, _ => some false
@[simp] def cIs (neg : Bool) : Cell → Cell → (Cell → Prop) → Prop := fun a b K => ∃ d z, b = .im d ∧ (d = .none ∨ ∃ k, d = .bool k) ∧ bitIs a d = some z ∧ K (.im (.bool (neg ^^ z)))
def rIsA (neg : Bool) : R2 := fun x y H Q => (y = .non ∧ Q (.bl (neg ^^ decide (x = .non))) H) ∨ ∃ b, y = .bl b ∧ Q (.bl (neg ^^ decide (x = .bl b))) H
theorem op_isA : OpR X (compareOp .Is) (rIsA false) := by
  intro pins s σ H x y v u Q I rx ry h
  rcases h with ⟨e, q⟩ | ⟨b, rfl, q⟩
  · exact op_isN pins s σ H x y v u Q I rx ry ⟨e, by simpa using q⟩
  · cases (show u = Value.bool b from ry)
    have other : ∀ {v : Value}, plainIs v (.bool b) = true → v ≠ .bool b → x ≠ .bl b → wpAny (model X.prog X.w) X.A (compareOp .Is v (.bool b)) (EP X pins σ Q) X.xe s := fun h1 h2 h3 =>
      wpAny_is_other h1 h2 ⟨.bl false, H, I, rfl, by simpa [h3] using q⟩
    cases x with
    | bl a =>
      cases (show v = Value.bool a from rx)
      exact op_isBl pins s σ H (.bl a) (.bl b) _ _ Q I rfl rfl ⟨a, b, rfl, rfl, by simpa using q⟩
    | non => cases rx; exact other rfl (by intro z; cases z) (by intro z; cases z)
    | ref a => cases rx; exact other rfl (by intro z; cases z) (by intro z; cases z)
    | ty n => cases rx; exact other rfl (by intro z; cases z) (by intro z; cases z)
    | int i => obtain ⟨t, rfl⟩ := rx; exact other rfl (by intro z; cases z) (by intro z; cases z)
    | str i => obtain ⟨t, rfl⟩ := rx; exact other rfl (by intro z; cases z) (by intro z; cases z)
    | byt i => obtain ⟨t, rfl⟩ := rx; exact other rfl (by intro z; cases z) (by intro z; cases z)
    | flt i => obtain ⟨t, rfl⟩ := rx; exact other rfl (by intro z; cases z) (by intro z; cases z)
theorem op_isNotA : OpR X (compareOp .IsNot) (rIsA true) := by
  intro pins s σ H x y v u Q I rx ry h
  rcases h with ⟨e, q⟩ | ⟨b, rfl, q⟩
  · exact op_notN pins s σ H x y v u Q I rx ry ⟨e, by simpa using q⟩
  · cases (show u = Value.bool b from ry)
    have other : ∀ {v : Value}, plainIs v (.bool b) = true → v ≠ .bool b → x ≠ .bl b → wpAny (model X.prog X.w) X.A (compareOp .IsNot v (.bool b)) (EP X pins σ Q) X.xe s := fun h1 h2 h3 =>
      wpAny_isNot_other h1 h2 ⟨.bl true, H, I, rfl, by simpa [h3] using q⟩
    cases x with
    | bl a =>
      cases (show v = Value.bool a from rx)
      exact op_notBl pins s σ H (.bl a) (.bl b) _ _ Q I rfl rfl ⟨a, b, rfl, rfl, by simpa using q⟩
    | non => cases rx; exact other rfl (by intro z; cases z) (by intro z; cases z)
    | ref a => cases rx; exact other rfl (by intro z; cases z) (by intro z; cases z)
    | ty n => cases rx; exact other rfl (by intro z; cases z) (by intro z; cases z)
    | int i => obtain ⟨t, rfl⟩ := rx; exact other rfl (by intro z; cases z) (by intro z; cases z)
    | str i => obtain ⟨t, rfl⟩ := rx; exact other rfl (by intro z; cases z) (by intro z; cases z)
    | byt i => obtain ⟨t, rfl⟩ := rx; exact other rfl (by intro z; cases z) (by intro z; cases z)
    | flt i => obtain ⟨t, rfl⟩ := rx; exact other rfl (by intro z; cases z) (by intro z; cases z)
theorem bitIs_non {K : PySem.W.Frag} {da : Option Addr} {F H : Hp} {v : V} {c : Cell} {fp : List Addr} {z : Bool} (h : CR K da F H v c fp) (e : bitIs c .none = some z) : z = decide (v = .non) := by
  cases h with
  | im h => cases h <;> simp [bitIs] at e <;> subst e <;> simp
  | un => cases e
  | _ => simp [bitIs] at e; subst e; simp
theorem bitIs_bl {K : PySem.W.Frag} {da : Option Addr} {F H : Hp} {v : V} {c : Cell} {fp : List Addr} {z k : Bool} (h : CR K da F H v c fp) (e : bitIs c (.bool k) = some z) : z = decide (v = .bl k) := by
  cases h with
  | im h => cases h <;> simp [bitIs] at e <;> subst e <;> simp
  | un => cases e
  | _ => simp [bitIs] at e; subst e; simp
theorem ok_Is {K : PySem.W.Frag} {B : Bs} {neg : Bool} : R2Ok K B (rIsA neg) (cIs neg) := fun F H x y c1 c2 f1 f2 K' Q s d sz h1 h2 ⟨dd, z, e, hd, hz, q⟩ gv => by
  subst e
  rcases hd with rfl | ⟨k, rfl⟩
  · rw [h2.non]
    refine .inl ⟨rfl, ?_⟩
    rw [← bitIs_non h1 hz]
    exact gv.data s d (.bl _) q
  · rw [h2.bl]
    refine .inr ⟨k, rfl, ?_⟩
    rw [← bitIs_bl h1 hz]
    exact gv.data s d (.bl _) q
end
end DL
set_option maxHeartbeats 1000000
namespace DL
open PySem PySem.Spec PyProof.Rows L2
def inGo (G : XG) (U : XT) (T : XE) (γ : List Cell) (K : List Cell → Prop) : List D → List Cell → Prop
  | [], acc => K acc
  | d :: ds, acc => G d γ fun γ2 => U γ2 fun b => if b = true then T γ2 fun c => acc.length < sizeLine ∧ inGo G U T γ K ds (acc ++ [c]) else inGo G U T γ K ds acc
def compGo2 (G : XG) (U : XT) (W1 : XI) (G1 : XG) (U1 : XT) (T : XE) (vs1 : List Nat) (γ : List Cell) (K : Cell → Prop) : List D → List Cell → Prop
  | [], acc => K (.ow acc)
  | d :: ds, acc => G d γ fun γ2 => U γ2 fun b => if b = true then W1 γ2 fun es => inGo G1 U1 T (wipeC γ2 vs1) (fun acc' => compGo2 G U W1 G1 U1 T vs1 γ K ds acc') es acc else compGo2 G U W1 G1 U1 T vs1 γ K ds acc
@[simp] def xLC2 (W : XI) (G : XG) (U : XT) (W1 : XI) (G1 : XG) (U1 : XT) (T : XE) (vs vs1 : List Nat) : XE := fun γ K => W γ fun ds => compGo2 G U W1 G1 U1 T vs1 (wipeC γ vs) K ds []
/-- a list under way -/
def AccR (K : PySem.W.Frag) (B : Bs) (F1 H1 : Hp) (D : Addr) (F2 H2 : Hp) (acc : List Cell) : Prop :=
  ∃ vacc fp, Go B F1 H1 F2 H2 ∧ H2 D = some (.lst vacc) ∧ F2 D = none ∧ CRs K B.dd F2 H2 vacc acc fp ∧ fp.Nodup ∧ ∀ a ∈ fp, H1 a = none ∧ F2 a = none ∧ a ≠ D
section
variable {X : Cx} {B : Bs} {F1 H1 F2 H2 F3 H3 F4 H4 : Hp} {D : Addr} {acc : List Cell}
theorem AccR.start (s : Same F1 H1) (dk : DeckOk B H1) (n : H1 D = none) : AccR X.K B F1 H1 D F1 (upd H1 D (.lst [])) [] := by
  refine ⟨[], [], Go.new s dk n, upd_same, ?_, .nil, List.nodup_nil, fun _ z => nomatch z⟩
  cases e : F1 D with
  | none => rfl
  | some o => rw [s D o e] at n; cases n
theorem AccR.go (A : AccR X.K B F1 H1 D F2 H2 acc) : Go B F1 H1 F2 H2 := A.choose_spec.choose_spec.1
theorem AccR.step (dk1 : DeckOk B H1) (n : H1 D = none) (A : AccR X.K B F1 H1 D F2 H2 acc) (g : Go B F2 H2 F3 H3) : AccR X.K B F1 H1 D F3 H3 acc := by
  obtain ⟨vacc, fp, g2, hD, fD, crs, nd, fr⟩ := A
  refine ⟨vacc, fp, g2.trans g, g.hh D _ (not_ms dk1 n) hD, g.nw D fD (by rw [hD]; exact fun z => by cases z), crs.mono g.ff (fun a m o e => g.hh a o (not_ms dk1 (fr a m).1) e), nd, fun a m => ⟨(fr a m).1, g.nw a (fr a m).2.1 ?_, (fr a m).2.2⟩⟩
  obtain ⟨o, e⟩ := crs.there a m
  rw [e]; exact fun z => by cases z
theorem AccR.push {z : V} {c : Cell} {f : List Addr} (dk1 : DeckOk B H1) (n : H1 D = none) (A : AccR X.K B F1 H1 D F2 H2 acc) (g : Go B F2 H2 F3 H3) (cr : CR X.K B.dd F3 H3 z c f) (nd : f.Nodup) (fr : ∀ a ∈ f, H2 a = none ∧ F3 a = none) :
    ∃ vacc, H3 D = some (.lst vacc) ∧ vacc.length = acc.length ∧ AccR X.K B F1 H1 D F3 (upd H3 D (.lst (vacc ++ [z]))) (acc ++ [c]) := by
  obtain ⟨vacc, fp, g2, hD, fD, crs, nd2, fr2⟩ := A
  have mD : D ∉ B.ms := not_ms dk1 n
  have fD3 : F3 D = none := g.nw D fD (by rw [hD]; exact fun z => by cases z)
  have crD : ∀ a ∈ f, a ≠ D := fun a m e => by
    subst e
    have := (fr a m).1
    rw [hD] at this
    cases this
  refine ⟨vacc, g.hh D _ mD hD, crs.length, vacc ++ [z], fp ++ f, (g2.trans g).put dk1 n fD3 (fun φ z => by rw [g.hh D _ mD hD] at z; cases z), upd_same, fD3, ?_, ?_, fun a m => ?_⟩
  · refine CRs.app (crs.mono g.ff fun a m o e => ?_) (CRs.one (cr.mono (Same.refl F3) fun a m o e => ?_))
    · rw [upd_ne (fr2 a m).2.2]
      exact g.hh a o (not_ms dk1 (fr2 a m).1) e
    · rw [upd_ne (crD a m)]; exact e
  · exact app_nodup (H := H2) nd2 nd (fun a m => crs.there a m) fun a m => (fr a m).1
  · rcases List.mem_append.mp m with m | m
    · refine ⟨(fr2 a m).1, g.nw a (fr2 a m).2.1 ?_, (fr2 a m).2.2⟩
      obtain ⟨o, e⟩ := crs.there a m
      rw [e]; exact fun z => by cases z
    · exact ⟨g2.none (fr a m).1, (fr a m).2, crD a m⟩
/-- what the slots own is not D -/
def NotAt (K : PySem.W.Frag) (B : Bs) (F H : Hp) (D : Addr) (γ : List Cell) (σ : L2.St) : Prop := ∃ fp, SlotsR K B.dd F H σ γ fp ∧ fp.Nodup ∧ ∀ a ∈ fp, F a = none ∧ B.G a = none ∧ a ∉ B.ms ∧ a ≠ D
theorem NotAt.of {γ : List Cell} {σ : L2.St} (R : Rel X.K B γ F1 H1 σ) (n : H1 D = none) : NotAt X.K B F1 H1 D γ σ := by
  obtain ⟨fp, h1, h2, h3⟩ := R.sl
  refine ⟨fp, h1, h2, fun a m => ⟨(h3 a m).1, (h3 a m).2, R.fpms (h3 a m).2, fun e => ?_⟩⟩
  subst e
  obtain ⟨o, z⟩ := h1.there a m
  rw [n] at z; cases z
theorem NotAt.step {γ : List Cell} {σ : L2.St} (N : NotAt X.K B F2 H2 D γ σ) (g : Go B F2 H2 F3 H3) : NotAt X.K B F3 H3 D γ σ := by
  obtain ⟨fp, h1, h2, h3⟩ := N
  refine ⟨fp, h1.mono g.ff fun a m o e => g.hh a o (h3 a m).2.2.1 e, h2, fun a m => ⟨g.nw a (h3 a m).1 ?_, (h3 a m).2⟩⟩
  obtain ⟨o, e⟩ := h1.there a m
  rw [e]; exact fun z => by cases z
theorem NotAt.put {γ : List Cell} {σ : L2.St} (N : NotAt X.K B F2 H2 D γ σ) (o : HO) : NotAt X.K B F2 (upd H2 D o) D γ σ := by
  obtain ⟨fp, h1, h2, h3⟩ := N
  exact ⟨fp, h1.mono (Same.refl _) fun a m o e => by rw [upd_ne (h3 a m).2.2.2]; exact e, h2, h3⟩
theorem NotAt.sub {γ γ' : List Cell} {σ σ' : L2.St} (N : NotAt X.K B F2 H2 D γ σ) (s : SubS X.K B F2 H2 γ σ γ' σ') : NotAt X.K B F2 H2 D γ' σ' := by
  obtain ⟨fp, h1, h2, h3⟩ := N
  obtain ⟨fp', q1, q2, q3⟩ := s fp h1 h2
  exact ⟨fp', q1, q2, fun a m => h3 a (q3 a m)⟩
theorem NotAt.wipe {γ : List Cell} {σ : L2.St} (N : NotAt X.K B F2 H2 D γ σ) (vs : List Nat) : NotAt X.K B F2 H2 D (wipeC γ vs) (L2.wipe σ vs) := by
  obtain ⟨fp, h1, h2, h3⟩ := N
  obtain ⟨fp', q1, q2, q3⟩ := h1.wipe vs
  exact ⟨fp', q1, q3 h2, fun a m => h3 a (q2 a m)⟩
theorem NotAt.rel {γ γ0 : List Cell} {σ σ0 : L2.St} (N : NotAt X.K B F2 H2 D γ σ) (g : Go B B.F0 B.G F2 H2) (R : Rel X.K B γ0 F1 H1 σ0) : Rel X.K B γ F2 H2 σ := by
  obtain ⟨fp, h1, h2, h3⟩ := N
  refine ⟨g, fun a m => ?_, R.mg, fp, h1, h2, fun a m => ⟨(h3 a m).1, (h3 a m).2.1⟩⟩
  exact g.nw a (by
    cases e : B.F0 a with
    | none => rfl
    | some o => have := R.go.ff a o e; rw [R.mf a m] at this; cases this) (R.mg a m)
theorem lc2_read {W W1 : XI} {G G1 : XG} {U U1 : XT} {T : XE} {sl vs sl1 vs1 : List Nat} {σ : L2.St} {H F : Hp} {γ : List Cell} {Q' : Cell → Prop} {Q : VK} (hsl : ∀ i ∈ sl, i ∈ vs) (hsl1 : ∀ i ∈ sl1, i ∈ vs1) (Rl : Rel X.K B γ F H σ) (hT : xLC2 W G U W1 G1 U1 T vs vs1 γ Q')
    (k : ∀ v F' H' c fp, Go B F H F' H' → CR X.K B.dd F' H' v c fp → fp.Nodup → (∀ a ∈ fp, H a = none ∧ F' a = none) → Q' c → Q v H') :
    tLc2 (liftIB X.K B W) (liftG X.K B sl G) (liftT X.K B U) (liftIF X.K B W1) (liftG X.K B sl1 G1) (liftT X.K B U1) (liftE X.K B T) vs vs1 σ H Q := by
  refine ⟨γ, F, _, Rl, hT, fun J F1 H1 ds g1 sz1 src hq D nD => ?_⟩
  have dk1 := g1.dk
  have R1 := (Rl.step g1).wipe vs
  let go2 := compGo2 G U W1 G1 U1 T vs1 (wipeC γ vs) Q'
  refine ⟨fun i m H => m = ds.length - i ∧ i ≤ ds.length ∧ ∃ F2 acc, AccR X.K B F1 H1 D F2 H acc ∧ go2 (ds.drop i) acc, ⟨ds.length, by simp, Nat.zero_le _, F1, [], AccR.start g1.sub dk1 nD, by simpa [go2] using hq⟩, ?_⟩
  rintro i m H2 ⟨rfl, hi, F2, acc, A, go⟩
  have g2 := A.go
  by_cases hlt : i < ds.length
  · refine .inr ⟨src.go i F2 H2 g2 hlt, fun H' => i + 1 ≤ ds.length ∧ ∃ F2 acc, AccR X.K B F1 H1 D F2 H' acc ∧ go2 (ds.drop (i + 1)) acc, fun H' hN => ⟨ds.length - (i + 1), by omega, rfl, hN.1, hN.2⟩, fun x H3 y => ?_⟩
    obtain ⟨F3, d, ed, g3, hd⟩ := src.yld i F2 H2 x H3 g2 hlt y
    have edr : ds.drop i = d :: ds.drop (i + 1) := by
      obtain ⟨z, e⟩ := List.getElem?_eq_some_iff.mp ed
      rw [List.drop_eq_getElem_cons hlt, e]
    rw [edr] at go
    have g23 := g2.trans g3
    refine ⟨wipeC γ vs, F3, d, _, R1.step g23, hd, go, fun γ2 σ2 R2 kp ln ss q2 => ⟨(wipe_eq (by rw [ln]) (sl := sl) kp hsl).trans wipe_wipe, γ2, F3, _, R2, q2, fun b F4 H4 g4 q4 => ?_⟩⟩
    have g34 := g3.trans g4
    have A4 := A.step dk1 nD g34
    cases b with
    | true =>
      refine iteT ⟨γ2, F4, _, R2.step g4, (if_pos rfl).mp q4, fun J1 F5 H5 es g5 sz5 src1 hq1 => ?_⟩
      have A5 := A4.step dk1 nD g5
      have D1 : NotAt X.K B F1 H1 D (wipeC γ vs) (wipe σ vs) := .of R1 nD
      have D5 := (((D1.step g23).sub ss).step (g4.trans g5)).wipe vs1
      let in1 := inGo G1 U1 T (wipeC γ2 vs1) (fun acc' => go2 (ds.drop (i + 1)) acc')
      refine ⟨fun j m H => m = es.length - j ∧ j ≤ es.length ∧ ∃ F6 acc, AccR X.K B F1 H1 D F6 H acc ∧ Same F5 F6 ∧ NotAt X.K B F6 H D (wipeC γ2 vs1) (wipe σ2 vs1) ∧ in1 (es.drop j) acc, ⟨es.length, by simp, Nat.zero_le _, F5, acc, A5, Same.refl F5, D5, by simpa [in1] using hq1⟩, ?_⟩
      rintro j m H6 ⟨rfl, hj, F6, acc6, A6, g56, D6, goi⟩
      by_cases hlj : j < es.length
      · refine .inr ⟨src1.go j F6 H6 g56 A6.go.sub hlj, fun H' => j + 1 ≤ es.length ∧ ∃ F6 acc, AccR X.K B F1 H1 D F6 H' acc ∧ Same F5 F6 ∧ NotAt X.K B F6 H' D (wipeC γ2 vs1) (wipe σ2 vs1) ∧ in1 (es.drop (j + 1)) acc, fun H' hN => ⟨es.length - (j + 1), by omega, rfl, hN.1, hN.2⟩, fun x1 H7 y1 => ?_⟩
        obtain ⟨F7, d1, ed1, g7, hd1⟩ := src1.yld j F6 H6 x1 H7 g56 A6.go.sub A6.go.dk hlj y1
        have edr1 : es.drop j = d1 :: es.drop (j + 1) := by
          obtain ⟨z, e⟩ := List.getElem?_eq_some_iff.mp ed1
          rw [List.drop_eq_getElem_cons hlj, e]
        rw [edr1] at goi
        have g57 := g56.trans g7.ff
        refine ⟨wipeC γ2 vs1, F7, d1, _, (D6.rel (R1.go.trans A6.go) R1).step g7, hd1, goi, fun γ3 σ3 R3 kp ln _ q3 => ⟨(wipe_eq (by rw [ln]) (sl := sl1) kp hsl1).trans wipe_wipe, γ3, F7, _, R3, q3, fun b F8 H8 g8 q8 => ?_⟩⟩
        have A8 := (A6.step dk1 nD g7).step dk1 nD g8
        have g58 := g57.trans g8.ff
        cases b with
        | true =>
          refine iteT ⟨γ3, F8, _, R3.step g8, (if_pos rfl).mp q8, fun z F9 H9 c f g9 sz9 cr ndc frc ⟨hsz, q9⟩ => ?_⟩
          obtain ⟨vacc, hD, hlen, A9⟩ := A8.push dk1 nD g9 cr ndc frc
          exact ⟨vacc, hD, by rw [hlen]; exact hsz, hlj, F9, acc6 ++ [c], A9, g58.trans g9.ff, (D6.step (g7.trans (g8.trans g9))).put _, q9⟩
        | false => exact iteF ⟨hlj, F8, acc6, A8, g58, D6.step (g7.trans g8), (if_neg Bool.false_ne_true).mp q8⟩
      · have e : j = es.length := by omega
        subst e
        have q6 : go2 (ds.drop (i + 1)) acc6 := by simpa [in1, inGo] using goi
        exact .inl ⟨src1.stop F6 H6 g56 A6.go.sub, hlt, F6, acc6, A6, q6⟩
    | false => exact iteF ⟨hlt, F4, acc, A4, (if_neg Bool.false_ne_true).mp q4⟩
  · have e : i = ds.length := by omega
    subst e
    have go' : Q' (.ow acc) := by simpa [go2, compGo2] using go
    obtain ⟨vacc, fp, g2, hD, fD, crs, nd, fr⟩ := A
    refine .inl ⟨src.stop F2 H2 g2, k (.ref D) F2 H2 (.ow acc) (D :: fp) (g1.trans g2) (.ow hD crs) (List.nodup_cons.mpr ⟨fun m => (fr D m).2.2 rfl, nd⟩) (fun a m => ?_) go'⟩
    rcases List.mem_cons.mp m with e | m
    · subst e; exact ⟨g1.none nD, fD⟩
    · exact ⟨g1.none (fr a m).1, (fr a m).2.1⟩
theorem de_lc2 {e : Expr} {W W1 : XI} {G G1 : XG} {U U1 : XT} {T : XE} {sl vs sl1 vs1 : List Nat} (h : PE X e (tLc2 (liftIB X.K B W) (liftG X.K B sl G) (liftT X.K B U) (liftIF X.K B W1) (liftG X.K B sl1 G1) (liftT X.K B U1) (liftE X.K B T) vs vs1)) (hsl : ∀ i ∈ sl, i ∈ vs := by decide) (hsl1 : ∀ i ∈ sl1, i ∈ vs1 := by decide) : DE X B e (xLC2 W G U W1 G1 U1 T vs vs1) :=
  pe_imp h fun σ H Q ⟨γ, F, Q', Rl, hT, k⟩ _ => lc2_read hsl hsl1 Rl hT fun v F' H' c fp g cr nd fr q sz => k v F' H' c fp g sz cr nd fr q
theorem ds_setLc2 {st : Stmt} {i : Nat} {W W1 : XI} {G G1 : XG} {U U1 : XT} {T : XE} {sl vs sl1 vs1 : List Nat} (h : PS X st (tAsg (tLc2 (liftIB X.K B W) (liftG X.K B sl G) (liftT X.K B U) (liftIF X.K B W1) (liftG X.K B sl1 G1) (liftT X.K B U1) (liftE X.K B T) vs vs1) (gName i))) (hsl : ∀ i ∈ sl, i ∈ vs := by decide) (hsl1 : ∀ i ∈ sl1, i ∈ vs1 := by decide) :
    DS X B st (sSet i (xLC2 W G U W1 G1 U1 T vs vs1)) := ps_imp h fun D σ H ⟨γ, F, D', R, hT, k1, k2, k3, k4⟩ =>
  lc2_read hsl hsl1 R hT fun v F' H' c fp g cr nd fr q => k1 _ F' _ H' (R.set g cr nd fr i) g.ff q
end
end DL
set_option maxHeartbeats 1000000
namespace DL
open PySem PySem.Spec PyProof.Rows L2
theorem rm1 {k : Nat} {A : Around} (r : Room k A) : A.units + 1 < cLine := by have := r.un; omega
theorem rm64 {k : Nat} {A : Around} (r : Room k A) : A.units + 64 < cLine := by have := r.un; omega
theorem rm65 {k : Nat} {A : Around} (r : Room k A) : A.units + 65 < cLine := by have := r.un; omega
section
variable {X : Cx} {B : Bs} {a b e : Expr} {es : List Expr} {T Ta Tb : XE} {U UA : XA} {pos : Pos}
theorem de_globI {x : Str} {i : Int} (hg : Gl X x) (hm : ∃ t, X.mg x = some (.int i t)) (hdb : (x == ("__debug__" : Str)) = false := by decide) : DE X B (.Name x pos) (xC (.int i)) := by
  obtain ⟨t, h⟩ := hm
  exact de_glob (v := .int i) hg h ⟨t, rfl⟩ (fun _ => .int i) hdb
theorem de_globS {x z : Str} (hg : Gl X x) (hm : ∃ t, X.mg x = some (.str z t)) (hdb : (x == ("__debug__" : Str)) = false := by decide) : DE X B (.Name x pos) (xC (.str z)) := by
  obtain ⟨t, h⟩ := hm
  exact de_glob (v := .str z) hg h ⟨t, rfl⟩ (fun _ => .str z) hdb
theorem dp_strs {K : PySem.W.Frag} {H : Hp} : ∀ zs : List Str, DpAll K H (zs.map V.str) (zs.map PyData.str)
  | [] => .nil
  | z :: zs => .cons (.str z) (dp_strs zs)
theorem de_globT {x : Str} {zs : List Str} (hg : Gl X x) (hm : ∃ a, X.mg x = some (.ref a) ∧ ∀ H, SqT X.K H a (zs.map V.str)) (hdb : (x == ("__debug__" : Str)) = false := by decide) : DE X B (.Name x pos) (xC (.tuple (zs.map .str))) := by
  obtain ⟨a, h, t⟩ := hm
  exact de_glob (v := .ref a) hg h rfl (fun F => .tup (t F) (dp_strs zs)) hdb
@[simp] def cNeg : Cell → (Cell → Prop) → Prop := fun a K => ∃ i, a = .im (.int i) ∧ K (.im (.int (-i)))
theorem ok_Neg {K : PySem.W.Frag} : R1Ok K B (rU fun i => .int (-i)) cNeg := fun F H x c1 f1 K' Q s d sz h1 ⟨i, e1, q⟩ gv => by
  subst e1
  rw [h1.int]
  exact ⟨i, rfl, gv.data s d (.int _) q⟩
@[simp] def cRep : Cell → Cell → (Cell → Prop) → Prop := fun a b K => ∃ (xs : List D) (k : Int), a = .ow (xs.map .im) ∧ b = .im (.int k) ∧ -(2 ^ 63) ≤ k ∧ k < 2 ^ 63 ∧ xs.length * k.toNat ≤ sizeLine ∧ K (.ow (((List.replicate k.toNat xs).flatten).map .im))
theorem DpAll.rep {K : PySem.W.Frag} {H : Hp} {vs : List V} {ds : List D} (h : DpAll K H vs ds) : ∀ n, DpAll K H (List.replicate n vs).flatten (List.replicate n ds).flatten
  | 0 => .nil
  | n + 1 => by
    rw [List.replicate_succ, List.replicate_succ, List.flatten_cons, List.flatten_cons]
    exact DpAll.app h (DpAll.rep h n)
theorem ok_Rep {K : PySem.W.Frag} : R2Ok K B rRep cRep := fun F H x y c1 c2 f1 f2 K' Q s d sz h1 h2 ⟨xs, k, e1, e2, k1, k2, hz, q⟩ gv => by
  subst e1 e2
  rw [h2.int]
  cases h1 with
  | ow t1 s1 =>
    obtain ⟨a1, _⟩ := CRs.toDp s1
    exact ⟨_, k, _, rfl, rfl, t1, k1, k2, by rw [DpAll.length a1]; exact hz, fun p np => gv.lstD s d (DpAll.rep a1 _) q np⟩
end
end DL
set_option maxHeartbeats 1000000
namespace DL
open PySem PySem.Spec PyProof.Rows L2
mutual
/-- d < e -/
def ltB : D → D → Bool
  | .int i, .int j => decide (i < j)
  | .str a, .str b => decide (a.cps.toList < b.cps.toList)
  | .tuple xs, .tuple ys => ltBs xs ys
  | _, _ => false
def ltBs : List D → List D → Bool
  | x :: xs, y :: ys => if PyData.eqv x y = true then ltBs xs ys else ltB x y
  | [], _ :: _ => true
  | _, [] => false
end
mutual
/-- .. can be asked -/
def ordB : D → D → Bool
  | .int _, .int _ => true
  | .str _, .str _ => true
  | .tuple xs, .tuple ys => ordBs xs ys
  | _, _ => false
def ordBs : List D → List D → Bool
  | x :: xs, y :: ys => (PyData.eqv x y || ordB x y) && ordBs xs ys
  | [], _ => true
  | _ :: _, [] => true
end
open Ob (RcOp lexAt)
def eqAtN (xs ys : List D) (j : Nat) : Bool := match xs[j]?, ys[j]? with
  | some x, some y => PyData.eqv x y
  | _, _ => true
def ltAtN (xs ys : List D) (j : Nat) : Bool := match xs[j]?, ys[j]? with
  | some x, some y => ltB x y
  | _, _ => true
theorem lexAt_data : ∀ (xs ys : List D) (i : Nat) (e r : Nat → Bool), (∀ j, e (i + j) = eqAtN xs ys j) → (∀ j, r (i + j) = ltAtN xs ys j) → lexAt e r (decide (xs.length < ys.length)) i (min xs.length ys.length) = ltBs xs ys
  | [], ys, i, e, r, _, _ => by
    cases ys with
    | nil => simp [lexAt, ltBs]
    | cons y ys => simp [lexAt, ltBs]
  | x :: xs, [], i, e, r, _, _ => by simp [lexAt, ltBs]
  | x :: xs, y :: ys, i, e, r, he, hr => by
    have e0 : e i = PyData.eqv x y := by simpa [eqAtN] using he 0
    have r0 : r i = ltB x y := by simpa [ltAtN] using hr 0
    have ih := lexAt_data xs ys (i + 1) e r (fun j => by rw [Nat.add_assoc, Nat.add_comm 1 j, he (j + 1)]; simp [eqAtN]) (fun j => by rw [Nat.add_assoc, Nat.add_comm 1 j, hr (j + 1)]; simp [ltAtN])
    have hm : min (x :: xs).length (y :: ys).length = min xs.length ys.length + 1 := by simp only [List.length_cons]; omega
    have hd : decide ((x :: xs).length < (y :: ys).length) = decide (xs.length < ys.length) := by simp
    rw [hm, hd]
    show (if e i = true then lexAt e r (decide (xs.length < ys.length)) (i + 1) (min xs.length ys.length) else r i) = ltBs (x :: xs) (y :: ys)
    rw [e0, r0, ih]
    simp only [ltBs]
theorem readsAll_len {h : Heap} : ∀ {vs : List Value} {ds : List D} {as : List Addr}, ReadsAll h vs ds as → vs.length = ds.length
  | _, _, _, .nil => rfl
  | _, _, _, .cons _ hs => by rw [List.length_cons, List.length_cons, readsAll_len hs]
theorem readsAll_at {h : Heap} : ∀ {vs : List Value} {ds : List D} {as : List Addr} (j : Nat), ReadsAll h vs ds as → ∀ (h1 : j < vs.length) (h2 : j < ds.length), ∃ bs, Reads h vs[j] ds[j] bs
  | _, _, _, j, .nil, h1, _ => absurd h1 (Nat.not_lt_zero _)
  | _, _, _, 0, .cons r _, _, _ => ⟨_, r⟩
  | _, _, _, j + 1, .cons _ rs, h1, h2 => by simpa using readsAll_at j rs (by simpa using h1) (by simpa using h2)
theorem canLay_at : ∀ {ds : List D} (j : Nat) (h : j < ds.length), PyData.canLayAll0 ds = true → ds[j].canLay0 = true
  | [], j, h, _ => absurd h (Nat.not_lt_zero _)
  | d :: ds, 0, _, c => by simp only [PyData.canLayAll0, Bool.and_eq_true] at c; exact c.1
  | d :: ds, j + 1, h, c => by simp only [PyData.canLayAll0, Bool.and_eq_true] at c; simpa using canLay_at j (by simpa using h) c.2
theorem depth_at : ∀ {ds : List D} (j : Nat) (h : j < ds.length), ds[j].depth ≤ PyData.depthAll ds
  | [], j, h => absurd h (Nat.not_lt_zero _)
  | d :: ds, 0, _ => by simp only [PyData.depthAll]; exact Nat.le_max_left _ _
  | d :: ds, j + 1, h => by
    have := depth_at (ds := ds) j (by simpa using h)
    simp only [PyData.depthAll]
    exact Nat.le_trans (by simpa using this) (Nat.le_max_right _ _)
theorem ordBs_at : ∀ {xs ys : List D} (j : Nat) (h1 : j < xs.length) (h2 : j < ys.length), ordBs xs ys = true → PyData.eqv xs[j] ys[j] = false → ordB xs[j] ys[j] = true
  | [], _, j, h, _, _, _ => absurd h (Nat.not_lt_zero _)
  | _ :: _, [], j, _, h, _, _ => absurd h (Nat.not_lt_zero _)
  | x :: xs, y :: ys, 0, _, _, c, e => by
    simp only [ordBs, Bool.and_eq_true, Bool.or_eq_true] at c
    simp only [List.getElem_cons_zero] at e ⊢
    rcases c.1 with z | z
    · rw [z] at e; cases e
    · exact z
  | x :: xs, y :: ys, j + 1, h1, h2, c, e => by
    simp only [ordBs, Bool.and_eq_true] at c
    simpa using ordBs_at (xs := xs) (ys := ys) j (by simpa using h1) (by simpa using h2) c.2 (by simpa using e)
theorem in1_units (A : Around) : A.in1.units = A.units + 1 := rfl
theorem rc_lt : ∀ (n : Nat) (d e : D) (A : Around) (s : Shared) (u v : Value) (as bs : List Addr), d.depth ≤ n → Reads s.heap u d as → Reads s.heap v e bs → d.canLay0 = true → e.canLay0 = true → ordB d e = true → A.units + n < cLine → RcOp .Lt A s u v (ltB d e) := by
  intro n
  induction n with
  | zero =>
    intro d e A s u v as bs hn rd re c1 c2 o hu
    cases d <;> cases e <;> simp only [ordB, Bool.false_eq_true] at o
    · cases rd; cases re
      simp only [ltB]
      exact RcOp.lt_int _ _ _ _
    · cases rd; cases re
      simp only [ltB]
      exact fun _ _ _ _ h => PyProof.Rows.lt_str h
    · simp [PyData.depth] at hn
  | succ n ih =>
    intro d e A s u v as bs hn rd re c1 c2 o hu
    cases d <;> cases e <;> simp only [ordB, Bool.false_eq_true] at o
    · cases rd; cases re
      simp only [ltB]
      exact RcOp.lt_int _ _ _ _
    · cases rd; cases re
      simp only [ltB]
      exact fun _ _ _ _ h => PyProof.Rows.lt_str h
    · rename_i xs ys
      cases rd with
      | @tuple a o1 vs n1 _ _ ho1 hc1 hd1 r1 =>
        cases re with
        | @tuple b o2 ws n2 _ _ ho2 hc2 hd2 r2 =>
          have l1 : vs.size = xs.length := by rw [← readsAll_len r1, Array.length_toList]
          have l2 : ws.size = ys.length := by rw [← readsAll_len r2, Array.length_toList]
          have cx : PyData.canLayAll0 xs = true := by simpa [PyData.canLay0] using c1
          have cy : PyData.canLayAll0 ys = true := by simpa [PyData.canLay0] using c2
          have hdp : PyData.depthAll xs ≤ n := by simpa [PyData.depth] using hn
          have key := RcOp.tuples_lt (A := A) (s := s) (l := a) (b := b) (items := vs) (items2 := ws) (e := eqAtN xs ys) (r := ltAtN xs ys) ⟨_, ho1, hc1, _, hd1⟩ ⟨_, ho2, hc2, _, hd2⟩ (by omega) (fun j h1 h2 => ?_) (fun j h1 h2 hej => ?_)
          · rw [l1, l2, lexAt_data xs ys 0 (eqAtN xs ys) (ltAtN xs ys) (fun j => by rw [Nat.zero_add]) (fun j => by rw [Nat.zero_add])] at key
            simpa only [ltB] using key
          · have k1 : j < xs.length := l1 ▸ h1
            have k2 : j < ys.length := l2 ▸ h2
            obtain ⟨b1, q1⟩ := readsAll_at j r1 (by simpa using h1) k1
            obtain ⟨b2, q2⟩ := readsAll_at j r2 (by simpa using h2) k2
            have e1 : eqAtN xs ys j = PyData.eqv xs[j] ys[j] := by simp [eqAtN, k1, k2]
            rw [e1]
            have hdj := depth_at j k1
            refine SeqAt.eqAt_reads xs[j] ys[j] A.in1 s vs[j] ws[j] b1 b2 (by simpa using q1) (by simpa using q2) (canLay_at j k1 cx) (canLay_at j k2 cy) ?_
            rw [in1_units]
            have : min xs[j].depth ys[j].depth ≤ xs[j].depth := Nat.min_le_left _ _
            omega
          · have k1 : j < xs.length := l1 ▸ h1
            have k2 : j < ys.length := l2 ▸ h2
            obtain ⟨b1, q1⟩ := readsAll_at j r1 (by simpa using h1) k1
            obtain ⟨b2, q2⟩ := readsAll_at j r2 (by simpa using h2) k2
            have e1 : eqAtN xs ys j = PyData.eqv xs[j] ys[j] := by simp [eqAtN, k1, k2]
            have e2 : ltAtN xs ys j = ltB xs[j] ys[j] := by simp [ltAtN, k1, k2]
            rw [e1] at hej
            rw [e2]
            have hdj := depth_at j k1
            exact ih xs[j] ys[j] A.in1 s vs[j] ws[j] b1 b2 (by omega) (by simpa using q1) (by simpa using q2) (canLay_at j k1 cx) (canLay_at j k2 cy) (ordBs_at j k1 k2 o hej) (by rw [in1_units]; omega)
def rLtD (K : PySem.W.Frag) : R2 := fun x y H Q => ∃ d e, Dp K H x d ∧ Dp K H y e ∧ SeqAt.shaped d = true ∧ SeqAt.shaped e = true ∧ ordB d e = true ∧ Q (.bl (ltB d e)) H
theorem op_ltD {X : Cx} (hu : X.A.units + 65 < cLine) : OpR X (compareOp .Lt) (rLtD X.K) := by
  intro pins s σ H x y v u Q I rx ry h
  obtain ⟨d, e, hd, he, sd, se, o, q⟩ := h
  obtain ⟨as, r1⟩ := Dp.reads I d x v hd rx
  obtain ⟨bs, r2⟩ := Dp.reads I e y u he ry
  exact rc_lt 64 d e X.A s v u as bs (SeqAt.depth_of_shaped sd) r1 r2 (SeqAt.canLay_of_shaped sd) (SeqAt.canLay_of_shaped se) o (by omega) _ _ _ _ ⟨.bl _, H, I, rfl, q⟩
@[simp] def cLtD : Cell → Cell → (Cell → Prop) → Prop := fun a b K => ∃ d e, toD a = some d ∧ toD b = some e ∧ SeqAt.shaped d = true ∧ SeqAt.shaped e = true ∧ ordB d e = true ∧ K (.im (.bool (ltB d e)))
theorem ok_LtD {K : PySem.W.Frag} {B : Bs} : R2Ok K B (rLtD K) cLtD := fun F H x y c1 c2 f1 f2 K' Q s d sz h1 h2 ⟨d1, d2, e1, e2, s1, s2, o, q⟩ gv =>
  ⟨d1, d2, h1.toH s e1, h2.toH s e2, s1, s2, o, gv.data s d (.bl _) q⟩
end DL
set_option maxHeartbeats 1000000
namespace DL
open PySem PySem.Spec PyProof.Rows L2
mutual
theorem reads_keep {h h' : Heap} (k : ∀ b o, h.get? b = some o → h'.get? b = some o) : ∀ {v : Value} {d : D} {as : List Addr}, Reads h v d as → Reads h' v d as
  | _, _, _, .none => .none
  | _, _, _, .bool b => .bool b
  | _, _, _, .int i t => .int i t
  | _, _, _, .str x t => .str x t
  | _, _, _, .list h1 h2 h3 h4 => .list (k _ _ h1) h2 h3 (readsAll_keep k h4)
  | _, _, _, .tuple h1 h2 h3 h4 => .tuple (k _ _ h1) h2 h3 (readsAll_keep k h4)
  | _, _, _, .dict h1 h2 h3 h4 h5 => .dict (k _ _ h1) h2 h3 (readsAll_keep k h4) (readsAll_keep k h5)
theorem readsAll_keep {h h' : Heap} (k : ∀ b o, h.get? b = some o → h'.get? b = some o) : ∀ {v : List Value} {d : List D} {as : List Addr}, ReadsAll h v d as → ReadsAll h' v d as
  | _, _, _, .nil => .nil
  | _, _, _, .cons h1 h2 => .cons (reads_keep k h1) (readsAll_keep k h2)
end
open PySem.W (EachIs alike dataLt AllAlike Sortable dataLe dataKind SortsAt)
theorem each_reads {h : Heap} : ∀ {vs : List Value} {ds : List D} {as : List Addr}, ReadsAll h vs ds as → EachIs (fun v d => ∃ as, Reads h v d as) vs ds
  | _, _, _, .nil => .nil
  | _, _, _, .cons r rs => .cons ⟨_, r⟩ (each_reads rs)
theorem each_vals {K : PySem.W.Frag} {H : Hp} : ∀ {xs : List V} {vs : List Value} {ds : List D}, Vals xs vs → DpAll K H xs ds → EachIs (fun v d => ∃ x, RelV x v ∧ Dp K H x d) vs ds
  | _, _, _, .nil, .nil => .nil
  | _, _, _, .cons r rs, .cons d ds => .cons ⟨_, r, d⟩ (each_vals rs ds)
theorem vals_each {K : PySem.W.Frag} {H : Hp} : ∀ {vs : List Value} {ds : List D}, EachIs (fun v d => ∃ x, RelV x v ∧ Dp K H x d) vs ds → ∃ xs, Vals xs vs ∧ DpAll K H xs ds
  | _, _, .nil => ⟨[], .nil, .nil⟩
  | _, _, .cons ⟨x, r, d⟩ t => by
    obtain ⟨xs, h1, h2⟩ := vals_each t
    exact ⟨x :: xs, .cons r h1, .cons d h2⟩
/-- ascending -/
def sortD (ds : List D) : List D := ds.mergeSort (dataLe false id)
def rSortedDD (K : PySem.W.Frag) : List V → Hp → VK → Prop := fun vs H Q => ∃ (a : Addr) (xs : List V) (ds : List D) (F : Hp), vs = [V.ref a] ∧ SqL K H a xs ∧ Same F H ∧ DpAll K F xs ds ∧ AllAlike ds ∧ Sortable ds ∧ (∀ d ∈ ds, d.depth ≤ 60) ∧
  ∀ ys p, DpAll K F ys (sortD ds) → H p = none → Q (.ref p) (upd H p (.lst ys))
theorem cr_sortedDD {X : Cx} (hu : X.A.units + 65 < cLine) : CallR X (.builtin "sorted") (rSortedDD X.K) := by
  intro pins s σ H vs us Q I r h
  obtain ⟨a, xs, ds, F, rfl, hs, sF, hdF, hal, hsk, hdp, q⟩ := h
  have hd := DpAll.mono sF hdF
  obtain ⟨its, rv, hl, hz⟩ := I.list hs
  obtain ⟨u, rfl, ru⟩ := vals1 r
  obtain rfl : u = Value.ref a := ru
  obtain ⟨as, ra⟩ := Dp.readsAll I ds xs its hd rv
  have e0 : ∀ b o, s.heap.get? b = some o → (PySem.W.sortingHeap (PySem.W.copyHeap s.heap its) (s.heap.objs.size + 1) its).get? b = some o := fun b o e => PySem.W.sorting_copy_old e
  have e1 := each_reads (readsAll_keep e0 ra)
  have hz' : its.length ≤ sizeLine := by rw [← rv.length]; exact hz
  refine PySem.W.sorted_vals (κ := dataKind (PySem.W.sortingHeap (PySem.W.copyHeap s.heap its) (s.heap.objs.size + 1) its) ds) hl.isList (SortsAt.data e1 hal hsk fun d m => ?_) hz' ?_
  · have := hdp d m
    show X.A.units + 1 + 1 + d.depth < cLine
    omega
  · have e2 : EachIs (fun v d => ∃ x, RelV x v ∧ Dp X.K F x d) (PySem.W.sortVals (dataKind (PySem.W.sortingHeap (PySem.W.copyHeap s.heap its) (s.heap.objs.size + 1) its) ds) false its its) (sortD ds) :=
      PySem.W.sortVals_each (κ := dataKind (PySem.W.sortingHeap (PySem.W.copyHeap s.heap its) (s.heap.objs.size + 1) its) ds) (rev := false) (fun b => PySem.W.keyToks b) (each_vals rv hdF) (PySem.W.each_keys hal e1)
    obtain ⟨ys, v1, v2⟩ := vals_each e2
    obtain ⟨n, hn⟩ := sortedAll_at s.heap its (PySem.W.sortVals (dataKind (PySem.W.sortingHeap (PySem.W.copyHeap s.heap its) (s.heap.objs.size + 1) its) ds) false its its).toArray
    have hn0 : H (s.heap.objs.size + 1) = none := I.hok.fresh (Nat.le_succ _)
    refine ⟨.ref (s.heap.objs.size + 1), upd H (s.heap.objs.size + 1) (.lst ys), I.laid (t' := s.toks) (fun b o e => sortedAll_old e) (Nat.le_succ _) ⟨?_, _, n, v1, hn⟩, rfl, q ys _ v2 hn0⟩
    have l1 := DpAll.length v2
    have l2 := DpAll.length hd
    have l3 : (sortD ds).length = ds.length := List.length_mergeSort ..
    show ys.length ≤ sizeLine
    omega
@[simp] def cSorted : List Cell → (Cell → Prop) → Prop := fun cs Q => ∃ c ds, cs = [c] ∧ lstF c = some ds ∧ AllAlike ds ∧ Sortable ds ∧ (∀ d ∈ ds, d.depth ≤ 60) ∧ Q (.ow ((sortD ds).map .im))
theorem ok_sorted {K : PySem.W.Frag} {B : Bs} : RAOk K B (rSortedDD K) cSorted := fun F H vs cs fp K' Q s d sz crs fr ⟨c, ds, e, e2, h1, h2, h3, q⟩ g => by
  subst e
  obtain ⟨v, rfl, h⟩ := crs_one crs
  obtain ⟨a, xs, rfl, t, al⟩ := h.frl s e2
  exact ⟨a, xs, ds, F, rfl, sq_of s t, s, al, h1, h2, h3, fun ys p hy np => g.lstD s d hy q np⟩
end DL
set_option maxHeartbeats 1000000
namespace DL
open PySem PySem.Spec PyProof.Rows L2
section
variable {X : Cx} {B : Bs} {a b e : Expr} {es : List Expr} {T Ta Tb TT TI' : XE} {U UA : XA} {pos : Pos} {st : Stmt}
@[simp] def xDNewK : XE := fun _ K => K (.dk [] [])
@[simp] def xDNewT : XE := fun _ K => K (.dt [] [])
theorem new_fr {F H : Hp} {p : Addr} (s : Same F H) (np : H p = none) : ∀ a ∈ [p], H a = none ∧ F a = none := fun a m => by
  have z : a = p := by simpa using m
  subst z
  refine ⟨np, ?_⟩
  cases e : F a with
  | none => rfl
  | some o => rw [s a o e] at np; cases np
theorem de_dnewK : DE X B (.Dict [] [] pos) xDNewK := pe_imp pe_dnewK fun σ H Q ⟨γ, F, Q', R, hT, k⟩ _ => fun p np sz =>
  k (.ref p) F _ (.dk [] []) [p] (Go.new R.sub R.dk np) sz (CR.dk (ks := []) (vs := []) (fp := []) upd_same rfl .nil) (by simp) (new_fr R.sub np) hT
theorem de_dnewT : DE X B (.Dict [] [] pos) xDNewT := pe_imp pe_dnewT fun σ H Q ⟨γ, F, Q', R, hT, k⟩ _ => fun p np sz =>
  k (.ref p) F _ (.dt [] []) [p] (Go.new R.sub R.dk np) sz (CR.dt (ks := []) (vs := []) (fp := []) upd_same rfl .nil) (by simp) (new_fr R.sub np) hT
section
variable {κ : Type} [DecidableEq κ]
def putC (ks : List κ) (cs : List Cell) (k : κ) (c : Cell) : List κ × List Cell := if k ∈ ks then (ks, cs.set (ks.idxOf k) c) else (ks ++ [k], cs ++ [c])
theorem any_mem {ks : List κ} {vs : List V} {k : κ} (l : ks.length = vs.length) : ((ks.zip vs).any fun kv => decide (kv.1 = k)) = decide (k ∈ ks) := by
  induction ks generalizing vs with
  | nil => simp
  | cons a ks ih =>
    cases vs with
    | nil => simp at l
    | cons v vs =>
      rw [List.zip_cons_cons, List.any_cons, ih (by simpa using l)]
      by_cases h : a = k
      · subst h; simp
      · have h' : ¬ k = a := fun z => h z.symm
        simp [h, h']
theorem map_put {ks : List κ} {vs : List V} {k : κ} {v : V} (l : ks.length = vs.length) (nd : ks.Nodup) : (ks.zip vs).map (fun kv => if kv.1 = k then (kv.1, v) else kv) = ks.zip (vs.set (ks.idxOf k) v) := by
  induction ks generalizing vs with
  | nil => simp
  | cons a ks ih =>
    cases vs with
    | nil => simp at l
    | cons w vs =>
      obtain ⟨n1, n2⟩ := List.nodup_cons.mp nd
      rw [List.zip_cons_cons, List.map_cons]
      by_cases h : a = k
      · subst h
        have e : (ks.zip vs).map (fun kv => if kv.1 = a then (kv.1, v) else kv) = ks.zip vs := by
          conv => rhs; rw [← List.map_id (ks.zip vs)]
          refine List.map_congr_left fun p m => ?_
          have : p.1 ∈ ks := (List.of_mem_zip m).1
          have hne : ¬ p.1 = a := fun z => n1 (by rw [← z]; exact this)
          rw [if_neg hne]; rfl
        rw [e]
        simp
      · rw [ih (by simpa using l) n2]
        have hb : (a == k) = false := by simpa using h
        simp [List.idxOf_cons, hb, h]
theorem put_cr {K : PySem.W.Frag} {da : Option Addr} {F H : Hp} {v : V} {c : Cell} {f : List Addr} {ks : List κ} {vs : List V} {cs : List Cell} {fp : List Addr} {k : κ} (crs : CRs K da F H vs cs fp) (l : ks.length = vs.length) (nd : ks.Nodup) (cr : CR K da F H v c f) :
    ∃ vs' fp', putK (ks.zip vs) k v = (putC ks cs k c).1.zip vs' ∧ (putC ks cs k c).1.length = vs'.length ∧ CRs K da F H vs' (putC ks cs k c).2 fp' ∧ (∀ a ∈ fp', a ∈ f ∨ a ∈ fp) ∧ ((f ++ fp).Nodup → fp'.Nodup) := by
  unfold putK putC
  rw [any_mem l]
  by_cases h : k ∈ ks
  · simp only [h, decide_true, if_true]
    obtain ⟨fp', h1, h2, h3⟩ := CRs.set cr (ks.idxOf k) crs
    exact ⟨_, fp', map_put l nd, by rw [List.length_set]; exact l, h1, h2, h3⟩
  · simp only [h, decide_false, if_false, Bool.false_eq_true]
    refine ⟨vs ++ [v], fp ++ f, ?_, by simp [l], CRs.app crs (CRs.one cr), fun a m => (List.mem_append.mp m).symm, fun n => ?_⟩
    · rw [List.zip_append l]; rfl
    · obtain ⟨n1, n2, n3⟩ := List.nodup_append.mp n
      exact List.nodup_append.mpr ⟨n2, n1, fun a ha b hb e => n3 b hb a ha e.symm⟩
end
@[simp] def sDPutK (i : Nat) (TI TT : XE) : XS := fun E γ => TT γ fun c => ∃ ks cs, γ[i]? = some (.dk ks cs) ∧ TI γ fun kc => ∃ d k, kc = .im d ∧ keyD d = some k ∧ ks.Nodup ∧ ks.length < sizeLine ∧ E.nx (γ.set i (.dk (putC ks cs k c).1 (putC ks cs k c).2))
theorem ds_dputK {i : Nat} (h : PS X st (sDPut (tVar i) (liftR X.K B TI') (liftE X.K B TT))) : DS X B st (sDPutK i TI' TT) :=
  ps_imp h fun Dd σ H ⟨γ, F, D', R, hT, k1, k2, k3, k4⟩ => ⟨γ, F, _, R, hT, fun y F1 H1 c f1 g sz cr nd fr ⟨ks, cs, e, hI⟩ => by
    have R1 := R.step g
    obtain ⟨v, f, h1, h2, h3, h4⟩ := R1.get e (by intro z; cases z)
    refine ⟨v, h1, γ, F1, _, R1, hI, fun kv F2 H2 ck fk g2 szk crk frk ⟨d, k, ek, hk, ndk, hlk, q⟩ => ?_⟩
    subst ek
    obtain ⟨v2, f2, q1, q2, q3, q4, q5⟩ := R.change (g.trans g2) e (by intro z; cases z)
    rw [h1] at q1; cases q1
    have hkv : kv = kV k := by cases crk with | im hd => exact keyD_dp hd hk
    subst hkv
    cases q2 with
    | @dk l _ vs2 _ fp2 t2 l2 al2 =>
      have fr2 : ∀ a ∈ f1, H a = none ∧ F2 a = none := fun a m => ⟨(fr a m).1, g2.nw a (fr a m).2 (by
        obtain ⟨o, z⟩ := cr.there a m
        rw [z]; exact fun z => by cases z)⟩
      have cr2 : CR X.K B.dd F2 H2 y c f1 := cr.mono g2.ff fun a m o eo => g2.hh a o (not_ms R.dk (fr a m).1) eo
      have na : ∀ a ∈ f1, a ∉ l :: fp2 := fun a m z => (q4 a z).1 (fr a m).1
      obtain ⟨vs', fp', w0, wl, w1, w2, w3⟩ := put_cr (k := k) al2 l2 ndk cr2
      refine ⟨l, _, rfl, .inl ⟨_, k, t2, rfl, ?_, rfl⟩, ?_⟩
      · rw [List.length_zip, ← l2, Nat.min_self]; exact hlk
      rw [w0]
      have nl : l ∉ fp' := fun m => by
        rcases w2 _ m with m | m
        · exact na _ m List.mem_cons_self
        · exact (List.nodup_cons.mp q3).1 m
      refine k1 _ F2 σ _ (q5 _ _ (l :: fp') (fun a nf _ => upd_ne fun z => nf (by rw [z]; exact List.mem_cons_self)) (.dk upd_same wl (w1.mono (Same.refl _) fun a m o eo => ?_)) ?_ fun a m => ?_) (g.trans g2).ff q
      · rw [upd_ne fun z => nl (by rw [← z]; exact m)]; exact eo
      · refine List.nodup_cons.mpr ⟨nl, w3 (List.nodup_append.mpr ⟨nd, (List.nodup_cons.mp q3).2, fun a ha b hb e => ?_⟩)⟩
        subst e; exact na a ha (List.mem_cons_of_mem _ hb)
      · rcases List.mem_cons.mp m with z | m
        · exact .inl (by rw [z]; exact List.mem_cons_self)
        · rcases w2 a m with m | m
          · exact .inr (fr2 a m)
          · exact .inl (List.mem_cons_of_mem _ m)⟩
/-- .. by a key that is a tuple display -/
@[simp] def sDPutT (i : Nat) (UA : XA) (TT : XE) : XS := fun E γ => TT γ fun c => ∃ ks cs, γ[i]? = some (.dt ks cs) ∧ UA γ fun kcs => ∃ ds k, kcs = ds.map .im ∧ keyDs ds = some k ∧ ds.length ≤ sizeLine ∧ ks.Nodup ∧ ks.length < sizeLine ∧ E.nx (γ.set i (.dt (putC ks cs k c).1 (putC ks cs k c).2))
theorem ds_dputT {i : Nat} (h : PS X st (sDPut (tVar i) (tTup (liftA X.K B UA)) (liftE X.K B TT))) : DS X B st (sDPutT i UA TT) :=
  ps_imp h fun Dd σ H ⟨γ, F, D', R, hT, k1, k2, k3, k4⟩ => ⟨γ, F, _, R, hT, fun y F1 H1 c f1 g sz cr nd fr ⟨ks, cs, e, hI⟩ => by
    have R1 := R.step g
    obtain ⟨v, f, h1, h2, h3, h4⟩ := R1.get e (by intro z; cases z)
    refine ⟨v, h1, γ, F1, _, R1, hI, fun kvs F2a H2a cks fk g2a crk ndk' frk ⟨ds, k, ek, hk, hds, ndk, hlk, q⟩ => ?_⟩
    subst ek
    obtain ⟨ald, _⟩ := CRs.toDp crk
    refine ⟨by rw [DpAll.length ald]; exact hds, fun p np => ?_⟩
    have g2b := Go.new (B := B) (o := .tup kvs) g2a.sub g2a.dk np
    have g2 := g2a.trans g2b
    obtain ⟨v2, f2, q1, q2, q3, q4, q5⟩ := R.change (g.trans g2) e (by intro z; cases z)
    rw [h1] at q1; cases q1
    have hkv : kvs = k.map kV := keyDs_dp ald hk
    subst hkv
    cases q2 with
    | @dt l _ vs2 _ fp2 t2 l2 al2 =>
      have fr2 : ∀ a ∈ f1, H a = none ∧ F2a a = none := fun a m => ⟨(fr a m).1, g2.nw a (fr a m).2 (by
        obtain ⟨o, z⟩ := cr.there a m
        rw [z]; exact fun z => by cases z)⟩
      have cr2 : CR X.K B.dd F2a (upd H2a p (.tup (k.map kV))) y c f1 := cr.mono g2.ff fun a m o eo => g2.hh a o (not_ms R.dk (fr a m).1) eo
      have na : ∀ a ∈ f1, a ∉ l :: fp2 := fun a m z => (q4 a z).1 (fr a m).1
      obtain ⟨vs', fp', w0, wl, w1, w2, w3⟩ := put_cr (k := k) al2 l2 ndk cr2
      refine ⟨l, _, rfl, .inr ⟨_, k, p, t2, rfl, upd_same, ?_, rfl⟩, ?_⟩
      · rw [List.length_zip, ← l2, Nat.min_self]; exact hlk
      rw [w0]
      have nl : l ∉ fp' := fun m => by
        rcases w2 _ m with m | m
        · exact na _ m List.mem_cons_self
        · exact (List.nodup_cons.mp q3).1 m
      refine k1 _ F2a σ _ (q5 _ _ (l :: fp') (fun a nf _ => upd_ne fun z => nf (by rw [z]; exact List.mem_cons_self)) (.dt upd_same wl (w1.mono (Same.refl _) fun a m o eo => ?_)) ?_ fun a m => ?_) (g.trans g2).ff q
      · rw [upd_ne fun z => nl (by rw [← z]; exact m)]; exact eo
      · refine List.nodup_cons.mpr ⟨nl, w3 (List.nodup_append.mpr ⟨nd, (List.nodup_cons.mp q3).2, fun a ha b hb e => ?_⟩)⟩
        subst e; exact na a ha (List.mem_cons_of_mem _ hb)
      · rcases List.mem_cons.mp m with z | m
        · exact .inl (by rw [z]; exact List.mem_cons_self)
        · rcases w2 a m with m | m
          · exact .inr (fr2 a m)
          · exact .inl (List.mem_cons_of_mem _ m)⟩
def trsOf (K : PySem.W.Frag) (B : Bs) : List (Str × XE) → List (TE × TE)
  | [] => []
  | (k, T) :: r => (tC (.str k), liftE K B T) :: trsOf K B r
@[simp] def xAll : List (Str × XE) → XA
  | [] => xNil
  | (_, T) :: r => xCons T (xAll r)
theorem pairs_read {K : PySem.W.Frag} : ∀ {kts : List (Str × XE)} {σ : L2.St} {H F : Hp} {γ : List Cell} {Q' : List Cell → Prop} {Q : List (V × V) → Hp → Prop}, Rel K B γ F H σ → xAll kts γ Q' →
    (∀ vs F' H' cs fp, Go B F H F' H' → CRs K B.dd F' H' vs cs fp → fp.Nodup → (∀ a ∈ fp, H a = none ∧ F' a = none) → vs.length = kts.length → Q' cs → Q ((kts.map fun kt => V.str kt.1).zip vs) H') → tPairs (trsOf K B kts) σ H Q
  | [], σ, H, F, γ, Q', Q, R, hT, k => k [] F H [] [] R.refl .nil List.nodup_nil (fun _ m => nomatch m) rfl hT
  | (k0, T) :: r, σ, H, F, γ, Q', Q, R, hT, k => by
    refine ⟨γ, F, _, R, hT, fun v F1 H1 c f g1 sz cr nd fr q => ?_⟩
    refine pairs_read (R.step g1) q fun vs F2 H2 cs fp g2 crs nds frs hl q2 => ?_
    have d1 := R.dk
    refine k (v :: vs) F2 H2 (c :: cs) (f ++ fp) (g1.trans g2) (.cons (cr.mono g2.ff fun a m o e => g2.hh a o (not_ms d1 (fr a m).1) e) crs) ?_ (fun a m => ?_) (by simp [hl]) q2
    · refine List.nodup_append.mpr ⟨nd, nds, fun a ha b hb e => ?_⟩
      subst e
      obtain ⟨o, z⟩ := cr.there a ha
      rw [(frs a hb).1] at z; cases z
    · rcases List.mem_append.mp m with m | m
      · refine ⟨(fr a m).1, g2.nw a (fr a m).2 ?_⟩
        obtain ⟨o, z⟩ := cr.there a m
        rw [z]; exact fun z => by cases z
      · exact ⟨g1.none (frs a m).1, (frs a m).2⟩
theorem mergeK_nodup : ∀ {more kvs : List (Key × V)}, ((kvs ++ more).map (·.1)).Nodup → mergeK kvs more = kvs ++ more
  | [], kvs, _ => by simp [mergeK]
  | p :: r, kvs, n => by
    have h : (kvs.any fun kv => decide (kv.1 = p.1)) = false := by
      rw [List.any_eq_false]
      intro q m z
      rw [List.map_append, List.map_cons, List.nodup_append] at n
      exact n.2.2 q.1 (List.mem_map_of_mem m) p.1 List.mem_cons_self (of_decide_eq_true z)
    have e : mergeK kvs (p :: r) = mergeK (kvs ++ [p]) r := by
      unfold mergeK
      rw [List.foldl_cons]
      unfold putK
      rw [h]; rfl
    rw [e, mergeK_nodup (by rw [List.append_assoc]; exact n), List.append_assoc]; rfl
@[simp] def xDisp (kts : List (Str × XE)) : XE := fun γ K => (xAll kts) γ fun cs => K (.dk (kts.map fun kt => .inr kt.1) cs)
theorem de_disp {keys : List (Option Expr)} {values : List Expr} {kts : List (Str × XE)} (h : PPs X pos keys values (trsOf X.K B kts)) (hn : (kts.map (·.1)).Nodup) (hl : kts.length ≤ 15) (hall : keys.all (·.isSome) = true) (hl2 : keys.length = values.length) (h0 : keys ≠ []) (h15 : keys.length ≤ 15) :
    DE X B (.Dict keys values pos) (xDisp kts) := pe_imp (pe_disp h hall hl2 h0 h15) fun σ H Q ⟨γ, F, Q', R, hT, k⟩ _ => fun p np => by
  have g0 := Go.new (B := B) (o := .dK []) R.sub R.dk np
  have np' : F p = none := (new_fr R.sub np p (by simp)).2
  refine pairs_read (R.step g0) hT fun vs F1 H1 cs fp g1 crs nd fr hl1 q => ?_
  have mp : p ∉ B.ms := not_ms R.dk np
  have e1 : H1 p = some (.dK []) := g1.hh p _ mp upd_same
  have fp1 : F1 p = none := g1.nw p np' (by rw [upd_same]; exact fun z => by cases z)
  refine ⟨e1, (kts.map fun kt => (.inr kt.1 : Key)).zip vs, ?_, ?_, ?_⟩
  · rw [List.map_zip_eq_zipWith, List.zip, List.zipWith_map_left]
    simp only [List.zipWith_map_left, List.zip]
    rfl
  · rw [List.length_zip, List.length_map]; omega
  · intro sz
    have nds : ((kts.map fun kt => (.inr kt.1 : Key)).zip vs).map (·.1) = kts.map fun kt => (.inr kt.1 : Key) := by
      rw [List.map_fst_zip]
      rw [List.length_map]; omega
    have hm : mergeK [] ((kts.map fun kt => (.inr kt.1 : Key)).zip vs) = (kts.map fun kt => (.inr kt.1 : Key)).zip vs := by
      rw [mergeK_nodup, List.nil_append]
      rw [List.nil_append, nds]
      rw [show (kts.map fun kt => (.inr kt.1 : Key)) = (kts.map (·.1)).map Sum.inr by rw [List.map_map]; rfl]
      exact List.Pairwise.map _ (fun a b hab e => hab (Sum.inr.inj e)) hn
    rw [hm]
    rw [hm] at sz
    have na : ∀ a ∈ fp, a ≠ p := fun a m e => by
      have := (fr a m).1
      rw [e, upd_same] at this
      cases this
    have g := g0.trans g1
    refine k (.ref p) F1 _ (.dk _ cs) (p :: fp) (g.put R.dk np fp1 (fun φ z => by rw [e1] at z; cases z)) sz (.dk upd_same (by rw [List.length_map]; exact hl1.symm) (crs.mono (Same.refl _) fun a m o e => by rw [upd_ne (na a m)]; exact e)) (List.nodup_cons.mpr ⟨fun m => na p m rfl, nd⟩) (fun a m => ?_) q
    rcases List.mem_cons.mp m with z | m
    · subst z; exact ⟨np, fp1⟩
    · exact ⟨g0.none (fr a m).1, (fr a m).2⟩
@[simp] def xIndex (Ta Tb : XE) : XE := fun γ K => Ta γ fun a => ∃ ds, lstD a = some ds ∧ Tb γ fun b => ∃ d j z, toD b = some d ∧ SeqAt.shaped (.list ds) = true ∧ SeqAt.shaped d = true ∧ ds[j]? = some z ∧ PyData.eqv z d = true ∧ (∀ (m : Nat) (z' : D), m < j → ds[m]? = some z' → PyData.eqv z' d = false) ∧ K (.im (.int (j : Nat)))
theorem de_index (h : PE X e (tBM X.K "list" (rIndexD X.K) (liftR X.K B Ta) (tCons (liftR X.K B Tb) tNil))) : DE X B e (xIndex Ta Tb) :=
  pe_imp h fun σ H Q ⟨γ, F, Q', R, hT, k⟩ _ => ⟨γ, F, _, R, hT, fun x F1 H1 c1 f1 g1 sz1 cr1 fr1 ⟨ds, e1, hb⟩ => by
    obtain ⟨l, vs, rfl, t, al⟩ := cr1.lst g1.sub e1
    refine ⟨.inl ⟨rfl, _, t⟩, γ, F1, _, R.step g1, hb, fun y F2 H2 c2 f2 g2 sz2 cr2 fr2 ⟨d, j, z, e2, s1, s2, hj, he, hno, q⟩ => ?_⟩
    have cr1' : CR X.K B.dd F2 H2 (.ref l) c1 f1 := cr1.mono g2.ff fun a m o e => g2.hh a o (fr1 a m) e
    have gk : Gives X.K B F H Q' Q := k
    exact ⟨l, y, d, ds, j, z, rfl, rfl, cr1'.toH g2.sub (lstD_toD e1), cr2.toH g2.sub e2, s1, s2, hj, he, hno, (gk.from (g1.trans g2)).data g2.sub g2.dk (.int _) q⟩⟩
@[simp] def cBitLen : Cell → (Cell → Prop) → Prop := fun a K => ∃ i, a = .im (.int i) ∧ K (.im (.int (Builtin.Int.intBits i : Nat)))
theorem de_bitlen (h : PE X e (tBits (liftR X.K B Ta))) : DE X B e (x1 cBitLen Ta) :=
  pe_imp h fun σ H Q ⟨γ, F, Q', R, hT, k⟩ _ => ⟨γ, F, _, R, hT, fun x F1 H1 c1 f1 g1 sz1 cr1 fr1 ⟨i, e1, q⟩ => by
    subst e1
    have gk : Gives X.K B F H Q' Q := k
    rw [cr1.int]
    exact ⟨i, rfl, (gk.from g1).data g1.sub g1.dk (.int _) q⟩⟩
@[simp] def cStr : List Cell → (Cell → Prop) → Prop := fun cs Q => ∃ i, cs = [.im (.int i)] ∧ i.natAbs.log2 < 1920 ∧ Q (.im (.str (toString i)))
theorem ok_str {K : PySem.W.Frag} : RAOk K B (fun xs H Q => ∃ i, xs = [.int i] ∧ i.natAbs.log2 < 1920 ∧ Q (.str (toString i)) H) cStr := fun F H vs cs fp K' Q s d sz crs fr ⟨i, e, hi, q⟩ g => by
  subst e
  obtain ⟨v, rfl, h⟩ := crs_one crs
  rw [h.int]
  exact ⟨i, rfl, hi, g.data s d (.str _) q⟩
def keyOfD : Key → D
  | .inl i => .int i
  | .inr s => .str s
theorem dp_keys {K : PySem.W.Frag} {H : Hp} : ∀ ks : List Key, DpAll K H (ks.map kV) (ks.map keyOfD)
  | [] => .nil
  | .inl i :: ks => .cons (.int i) (dp_keys ks)
  | .inr i :: ks => .cons (.str i) (dp_keys ks)
@[simp] def cLstD : List Cell → (Cell → Prop) → Prop := fun cs Q => ∃ ks vs, (cs = [.dk ks vs]) ∧ Q (.ow ((ks.map keyOfD).map .im))
theorem ok_lstD {K : PySem.W.Frag} : RAOk K B rListD cLstD := fun F H vs cs fp K' Q s d sz crs fr ⟨ks, vs0, e, q⟩ g => by
  subst e
  obtain ⟨v, rfl, h⟩ := crs_one crs
  cases h with
  | @dk a _ vs1 _ fp t l al =>
    refine ⟨a, _, rfl, t, fun p np => ?_⟩
    have e : ((ks.zip vs1).map fun kv => kV kv.1) = ks.map kV := by
      rw [show ((ks.zip vs1).map fun kv => kV kv.1) = ((ks.zip vs1).map (·.1)).map kV by rw [List.map_map]; rfl, List.map_fst_zip (by omega)]
    rw [e]
    exact g.lstD s d (dp_keys ks) q np
end
end DL
set_option maxHeartbeats 1000000
namespace DL
open PySem PySem.Spec PyProof.Rows L2
theorem obx_ok {P : Program} {w : World} {H : Hp} {h : Heap} {a : Addr} {o : Obj} (e : h.get? a = some o) : ObjOk P w H h a (ObX a o) :=
  ⟨e, ⟨o, e⟩, fun h1 h2 e1 k => k _ e1⟩
def addC (C : Addr → Option Obj) (H : Hp) : Hp := fun a => match C a with
  | some o => some (ObX a o)
  | none => H a
def noC (C : Addr → Option Obj) (H : Hp) : Hp := fun a => match C a with
  | some _ => none
  | none => H a
def backC (C : Addr → Option Obj) (H H1 : Hp) : Hp := fun a => match C a with
  | some _ => H a
  | none => H1 a
section
variable {C : Addr → Option Obj} {H H1 : Hp} {a : Addr} {o : Obj} {u : HO}
theorem addC_in (e : C a = some o) : addC C H a = some (ObX a o) := by unfold addC; rw [e]
theorem addC_out (e : C a = none) : addC C H a = H a := by unfold addC; rw [e]
theorem noC_in (e : C a = some o) : noC C H a = none := by unfold noC; rw [e]
theorem noC_out (e : C a = none) : noC C H a = H a := by unfold noC; rw [e]
theorem backC_in (e : C a = some o) : backC C H H1 a = H a := by unfold backC; rw [e]
theorem backC_out (e : C a = none) : backC C H H1 a = H1 a := by unfold backC; rw [e]
theorem cOut (h : ∀ o, C a ≠ some o) : C a = none := by
  cases e : C a with
  | none => rfl
  | some o => exact absurd e (h o)
end
section
variable {P : Program} {w : World} {K : PySem.W.Frag} {mg : Str → Option Value} {base : Heap} {A : Around} {outer : List Env} {s s' : Shared} {H H' H1 : Hp} {C : Addr → Option Obj} {Q Q' : VK} {u : Value} {h h' : Heap}
/-- told objects are all of them in the abstract heap -/
def InC (C : Addr → Option Obj) (H : Hp) : Prop := ∀ a o, C a = some o → H a = some (ObX a o)
theorem InC.ne (i : InC C H) {b : Addr} {x : HO} (e : H b = some x) (n : ∀ φ, x ≠ .ext φ) : C b = none := cOut fun o z => by
  rw [i b o z] at e
  exact n _ (Option.some.inj e).symm
theorem hok_no (x : HOk P w H h) (i : InC C H) : HOk P w (noC C H) h := fun a o e => by
  have ca : C a = none := cOut fun q z => by rw [noC_in z] at e; cases e
  rw [noC_out ca] at e
  refine (x a o e).stay (fun _ _ _ q => q) (fun b q => ?_) fun b xs q => ?_
  · rw [noC_out (i.ne q fun φ z => by cases z)]; exact q
  · rw [noC_out (i.ne q fun φ z => by cases z)]; exact q
theorem hok_add (x : HOk P w H h) (k : ∀ a o, C a = some o → H a = none ∧ h.get? a = some o) : HOk P w (addC C H) h := fun a o e => by
  cases ca : C a with
  | some q =>
    rw [addC_in ca] at e
    cases e
    exact obx_ok (k a q ca).2
  | none =>
    rw [addC_out ca] at e
    have nc : ∀ {b y}, H b = some y → C b = none := fun {b y} q => cOut fun o z => by rw [(k b o z).1] at q; cases q
    exact (x a o e).stay (fun _ _ _ q => q) (fun b q => by rw [addC_out (nc q)]; exact q) fun b xs q => by rw [addC_out (nc q)]; exact q
theorem env_no (e : Env0 P w K mg base A outer s H) (i : InC C H) : Env0 P w K mg base A outer s (noC C H) := by
  have none_ : ∀ {b}, H b = none → noC C H b = none := fun {b} z => by
    cases ca : C b with
    | some q => exact noC_in ca
    | none => rw [noC_out ca]; exact z
  exact ⟨e.frames, e.mod, fun b o z => ⟨(e.bs b o z).1, none_ (e.bs b o z).2⟩, e.bsz, e.funs, fun b m => none_ (e.frf b m), hok_no e.hok i, e.bare⟩
theorem env_add (e : Env0 P w K mg base A outer s H) (k : ∀ a o, C a = some o → H a = none ∧ s.heap.get? a = some o) (kb : ∀ a o, C a = some o → base.get? a = none ∧ a ∉ frs outer) : Env0 P w K mg base A outer s (addC C H) := by
  refine ⟨e.frames, e.mod, fun b o z => ⟨(e.bs b o z).1, ?_⟩, e.bsz, e.funs, fun b m => ?_, hok_add e.hok k, e.bare⟩
  · rw [addC_out (cOut fun q y => by rw [(kb b q y).1] at z; cases z)]; exact (e.bs b o z).2
  · rw [addC_out (cOut fun q y => (kb b q y).2 m)]; exact e.frf b m
/-- behind a call that does not know of the told objects -/
theorem ce_back (e : Env0 P w K mg base A outer s H) (i : InC C H) (h : CE outer P w (noC C H) s Q' u s') (k : ∀ v H1, (∀ a o, C a = some o → H1 a = none) → Q' v H1 → Q v (backC C H H1)) : CE outer P w H s Q u s' := by
  obtain ⟨v, H1, os, bare, un, hok, r, q⟩ := h
  have hC : ∀ {a o}, C a = some o → H a = some (ObX a o) := fun {a o} z => i a o z
  have obj : ∀ {a o}, C a = some o → s.heap.get? a = some o := fun {a o} z => (e.hok a _ (hC z)).1
  have nfr : ∀ {a o}, C a = some o → a ∉ frs outer := fun {a o} z m => by
    have := e.frf a m
    rw [hC z] at this; cases this
  have n1 : ∀ {a o}, C a = some o → H1 a = none := fun {a o} z => un.free a o (obj z) (noC_in z) (by simp)
  have o1 : ∀ {a o}, C a = some o → s'.heap.get? a = some o := fun {a o} z => un.keep a o (obj z) (noC_in z) (nfr z) (by simp)
  have nn : ∀ {b}, H b = none → C b = none := fun {b} z => cOut fun o y => by rw [hC y] at z; cases z
  have nx : ∀ {b x}, H b = some x → (∀ φ, x ≠ .ext φ) → C b = none := fun e n => i.ne e n
  refine ⟨v, backC C H H1, os, bare, ⟨fun b o z n hb hx => ?_, fun b o z n hb hx => ?_, fun b o z n hx => ?_, fun b o z hx => un.there b o z hx, fun b xs z => ?_, fun b ob xs z => ?_, fun b ps z => ?_⟩, fun a o z => ?_, r, k v H1 (fun a o z => n1 z) q⟩
  · exact un.keep b o z (by rw [noC_out (nn n)]; exact n) hb hx
  · exact un.slot b o z (by rw [noC_out (nn n)]; exact n) hb hx
  · rw [backC_out (nn n)]; exact un.free b o z (by rw [noC_out (nn n)]; exact n) hx
  · have c := nx z (fun φ y => by cases y)
    rw [backC_out c]; exact un.tups b xs (by rw [noC_out c]; exact z)
  · have c := nx z (fun φ y => by cases y)
    rw [backC_out c]; exact un.frzs b ob xs (by rw [noC_out c]; exact z)
  · have c := nx z (fun φ y => by cases y)
    rw [backC_out c]; exact un.tbls b ps (by rw [noC_out c]; exact z)
  · cases ca : C a with
    | some q =>
      rw [backC_in ca, hC ca] at z
      cases z
      exact obx_ok (o1 ca)
    | none =>
      rw [backC_out ca] at z
      have nc : ∀ {b y}, H1 b = some y → C b = none := fun {b y} q => cOut fun o z => by rw [n1 z] at q; cases q
      exact (hok a o z).stay (fun _ _ _ q => q) (fun b q => by rw [backC_out (nc q)]; exact q) fun b xs q => by rw [backC_out (nc q)]; exact q
/-- behind a call to which objects were told -/
theorem ce_no (k : ∀ a o, C a = some o → H a = none ∧ s.heap.get? a = some o) (h : CE outer P w (addC C H) s Q' u s') (q : ∀ v H1, Q' v H1 → InC C H1 ∧ Q v (noC C H1)) : CE outer P w H s Q u s' := by
  obtain ⟨v, H1, os, bare, un, hok, r, q'⟩ := h
  obtain ⟨i1, q1⟩ := q v H1 q'
  have o1 : ∀ {a o}, C a = some o → s'.heap.get? a = some o := fun {a o} z => (hok a _ (i1 a o z)).1
  have nc : ∀ {b y}, H b = some y → C b = none := fun {b y} q => cOut fun o z => by rw [(k b o z).1] at q; cases q
  refine ⟨v, noC C H1, os, bare, ⟨fun b o z n hb hx => ?_, fun b o z n hb hx => ?_, fun b o z n hx => ?_, fun b o z hx => un.there b o z hx, fun b xs z => ?_, fun b ob xs z => ?_, fun b ps z => ?_⟩, hok_no hok i1, r, q1⟩
  · cases c : C b with
    | some p => 
      have := (k b p c).2
      rw [this] at z; cases z
      exact o1 c
    | none => exact un.keep b o z (by rw [addC_out c]; exact n) hb hx
  · cases c : C b with
    | some p => 
      have := (k b p c).2
      rw [this] at z; cases z
      exact ⟨o.slots, o1 c⟩
    | none => exact un.slot b o z (by rw [addC_out c]; exact n) hb hx
  · cases c : C b with
    | some p => exact noC_in c
    | none => rw [noC_out c]; exact un.free b o z (by rw [addC_out c]; exact n) hx
  · rw [noC_out (nc z)]; exact un.tups b xs (by rw [addC_out (nc z)]; exact z)
  · rw [noC_out (nc z)]; exact un.frzs b ob xs (by rw [addC_out (nc z)]; exact z)
  · rw [noC_out (nc z)]; exact un.tbls b ps (by rw [addC_out (nc z)]; exact z)
end
end DL
set_option maxHeartbeats 1000000
namespace DL
open PySem PySem.Spec PyProof.Rows L2
section
variable {K : PySem.W.Frag} {C : Addr → Option Obj} {F H : Hp} {da : Option Addr}
theorem sqL_no (i : InC C F) {a : Addr} {xs : List V} (h : SqL K F a xs) : SqL K (noC C F) a xs := by
  rcases h with (h | ⟨o, h⟩) | h
  · exact .inl (.inl (by rw [noC_out (i.ne h fun φ z => by cases z)]; exact h))
  · exact .inl (.inr ⟨o, by rw [noC_out (i.ne h fun φ z => by cases z)]; exact h⟩)
  · exact .inr h
theorem sqT_no (i : InC C F) {a : Addr} {xs : List V} (h : SqT K F a xs) : SqT K (noC C F) a xs := by
  rcases h with (h | ⟨o, h⟩) | h
  · exact .inl (.inl (by rw [noC_out (i.ne h fun φ z => by cases z)]; exact h))
  · exact .inl (.inr ⟨o, by rw [noC_out (i.ne h fun φ z => by cases z)]; exact h⟩)
  · exact .inr h
mutual
theorem dp_no (i : InC C F) : ∀ {v : V} {d : D}, Dp K F v d → Dp K (noC C F) v d
  | _, _, .non => .non
  | _, _, .bl b => .bl b
  | _, _, .int i => .int i
  | _, _, .str x => .str x
  | _, _, .lst h hs => .lst (sqL_no i h) (dpAll_no i hs)
  | _, _, .tup h hs => .tup (sqT_no i h) (dpAll_no i hs)
theorem dpAll_no (i : InC C F) : ∀ {vs : List V} {ds : List D}, DpAll K F vs ds → DpAll K (noC C F) vs ds
  | _, _, .nil => .nil
  | _, _, .cons h hs => .cons (dp_no i h) (dpAll_no i hs)
end
theorem same_no (s : Same F H) (i : InC C H) (f : ∀ a o, C a = some o → F a = some (ObX a o)) : Same (noC C F) (noC C H) := fun a o e => by
  have c : C a = none := cOut fun q z => by rw [noC_in z] at e; cases e
  rw [noC_out c] at e ⊢
  exact s a o e
end
theorem capt_vals {K : PySem.W.Frag} {F : Hp} {cl : List (Str × Addr)} : ∀ {fr : List Str} {ds : List D}, ds.length = fr.length → (∀ (i : Nat) (y : Str), fr[i]? = some y → ∃ c v d ob u, cl.lookup y = some c ∧ ds[i]? = some d ∧ Dp K F v d ∧ F c = some (ObX c ob) ∧ ob.data = .cell (some u) ∧ RelV v u) →
    ∃ ws : List V, ws.length = fr.length ∧ DpAll K F ws ds ∧ ∀ (i : Nat) (y : Str), fr[i]? = some y → ∃ c v ob u, cl.lookup y = some c ∧ ws[i]? = some v ∧ F c = some (ObX c ob) ∧ ob.data = .cell (some u) ∧ RelV v u
  | [], ds, l, _ => by
    have : ds = [] := List.length_eq_zero_iff.mp l
    subst this
    exact ⟨[], rfl, .nil, fun i y h => by simp at h⟩
  | x :: fr, [], l, _ => by simp at l
  | x :: fr, d :: ds, l, h => by
    obtain ⟨ws, l2, hd, hw⟩ := capt_vals (fr := fr) (ds := ds) (by simpa using l) fun i y e => by simpa using h (i + 1) y (by simpa using e)
    obtain ⟨c, v, d', ob, u, h1, h2, h3, h4, h5, h6⟩ := h 0 x rfl
    have ed : d = d' := by simpa using h2
    subst ed
    refine ⟨v :: ws, by simp [l2], .cons h3 hd, fun i y e => ?_⟩
    cases i with
    | zero =>
      have : x = y := by simpa using e
      subst this
      exact ⟨c, v, ob, u, h1, rfl, h4, h5, h6⟩
    | succ i =>
      obtain ⟨c, v', ob, u, q⟩ := hw i y (by simpa using e)
      exact ⟨c, v', ob, u, by simpa using q⟩
/-- the cells of a closure, as objects -/
noncomputable def clC (cl : List (Str × Addr)) (F : Hp) : Addr → Option Obj := fun a => open Classical in if h : ∃ o, (∃ y, cl.lookup y = some a) ∧ F a = some (ObX a o) ∧ ∃ v, o.data = .cell v then some h.choose else none
theorem clC_some {cl : List (Str × Addr)} {F : Hp} {a : Addr} {o : Obj} (h : clC cl F a = some o) : (∃ y, cl.lookup y = some a) ∧ F a = some (ObX a o) ∧ ∃ v, o.data = .cell v := by
  unfold clC at h
  split at h
  · rename_i q
    cases h
    exact q.choose_spec
  · cases h
theorem clC_of {cl : List (Str × Addr)} {F : Hp} {a : Addr} {y : Str} {o : Obj} {v : Option Value} (h : cl.lookup y = some a) (e : F a = some (ObX a o)) (hv : o.data = .cell v) : ∃ q, clC cl F a = some q := by
  unfold clC
  rw [dif_pos ⟨o, ⟨y, h⟩, e, v, hv⟩]
  exact ⟨_, rfl⟩
def nfOf (L : LamI) (cl : List (Str × Addr)) (c : Addr) : NdefX.NF := ⟨"<lambda>", L.qual, L.params, [], L.scope, cl, c⟩
/-- the promise of a lambda as one of the callee's first argument -/
def lamFS (L : LamI) (S : List D → FS) : FS := fun cs K' => ∃ ds r, cs = .fn L ds :: r ∧ S ds r K'
def LamP (P : Program) (w : World) (K : PySem.W.Frag) (mg : Str → Option Value) (base : Heap) (dn : Dn) (k : Nat) (L : LamI) (S : List D → FS) : Prop :=
  ∀ (A : Around) (outer : List Env) (s : Shared) (H : Hp) (f : Addr) (us : List Value) (vs : List V) (Q : VK), Room k A → Env0 P w K mg base A outer s H → Vals vs us → spOf K dn (lamFS L S) (.ref f :: vs) H Q E0 →
    codeAny (model P w) A (.call (.ref f) ⟨us, []⟩) (L2.CR CX0 outer P w H s Q E0) s
theorem dp_same {K : PySem.W.Frag} {F : Hp} {vs : List V} {ds : List D} (h : DpAll K F vs ds) : vs.length = ds.length := DpAll.length h
theorem lam_ok {P : Program} {w : World} {K : PySem.W.Frag} {mg : Str → Option Value} {base : Heap} {dn : Dn} {k : Nat} {L : LamI} {N ps : List Str} {S : List D → FS} {T : XE} (Sc : NdefX.NScope N ps L.fr L.scope)
    (hb : ∀ (cl : List (Str × Addr)) (pm cv ctv : Value) (us : List Value), us.length = ps.length → bindArgs (PySem.W.kla_fn "<lambda>" L.qual L.params L.body L.scope cl pm cv ctv) ⟨us, []⟩ = pure (ps.zip us))
    (args : ∀ ds cs K', S ds cs K' → cs.length = ps.length ∧ ∃ es : List D, cs = es.map .im)
    (body : ∀ (cl : List (Str × Addr)) (c' f : Addr) (A : Around) (outer : List Env) (s : Shared) (H : Hp) (B : Bs), B.dn = dn → Room k (A.deeper (NdefX.envF (nfOf L cl c') f s.heap.objs.size)) → DE (NdefX.ncx CX0 P w K mg base N (nfOf L cl c') f A outer s H E0).nox B L.body T)
    (main : ∀ ds cs K', S ds cs K' → ds.length = L.fr.length → T (cs ++ (ds.map .im ++ List.replicate (N.length - cs.length - ds.length) .un)) K') : LamP P w K mg base dn (k + 1) L S := by
  intro A outer s H f us vs Q hr e0 r hsp
  obtain ⟨F0, da, cs0, fp, K', sm, dk, mf, crs, nd, hF, ⟨ds, cs, ec, hS⟩, k1⟩ := hsp
  subst ec
  obtain ⟨hlc, es, ecs⟩ := args ds cs K' hS
  subst ecs
  cases crs with
  | @cons _ _ _ _ f1 fp2 crf crs =>
    obtain ⟨ald, efp⟩ := CRs.toDp crs
    subst efp
    cases crf with
    | @fn _ c' cl pm ctv _ _ hf hc cap =>
      have of1 := (e0.hok f _ (sm _ _ hf)).1
      obtain ⟨⟨oc, vso, tq, hoc, hdc, hvc⟩, _, _⟩ := e0.hok c' _ (sm _ _ hc)
      obtain ⟨ws, lw, alw, hw⟩ := capt_vals cap.len cap.has
      let C := clC cl F0
      have iF : InC C F0 := fun a o e => (clC_some e).2.1
      have iH : InC C H := fun a o e => sm _ _ (iF a o e)
      have inCell : ∀ y c, cl.lookup y = some c → ∃ o v, C c = some o ∧ s.heap.get? c = some o ∧ o.data = .cell v := fun y c e => by
        have hy := cap.only y c e
        obtain ⟨i, hi⟩ := List.mem_iff_getElem?.mp hy
        obtain ⟨c2, v, d, ob, u, h1, h2, h3, h4, h5, h6⟩ := cap.has i y hi
        rw [e] at h1
        cases h1
        obtain ⟨q, hq⟩ := clC_of e h4 h5
        obtain ⟨_, q2, v2, q3⟩ := clC_some hq
        exact ⟨q, v2, hq, (e0.hok c _ (sm _ _ q2)).1, q3⟩
      have e1 : Env0 P w K mg base A outer s (noC C H) := env_no e0 iH
      have cells : NdefX.CellsAt cl L.fr (ws.map some) s.heap (noC C H) := by
        refine ⟨by rw [List.length_map]; exact lw, fun y c e => ?_, cap.inj, fun i y e => ?_⟩
        · obtain ⟨o, v, h1, h2, h3⟩ := inCell y c e
          exact ⟨noC_in h1, v, o, h2, h3⟩
        · obtain ⟨c, v, ob, u, h1, h2, h3, h4, h5⟩ := hw i y e
          refine ⟨c, h1, fun v' e' => ?_⟩
          rw [List.getElem?_map, h2] at e'
          cases e'
          exact ⟨u, h5, ob, (e0.hok c _ (sm _ _ h3)).1, h4⟩
      have lim : s.heap.NoLimit := e1.mod.nolimit.keeps fun b o e => (e1.bs b o e).1
      have hl : vs.length = ps.length := by rw [dp_same ald, ← hlc, List.length_map]
      have core : codeAny (model P w) A (.call (.ref f) ⟨us, []⟩) (L2.CR CX0 outer P w (noC C H) s (fun v H1 => (∀ a o, C a = some o → H1 a = none) → Q v (backC C H H1)) E0) s := by
        refine PySem.W.kla_callFunE hr.depth of1 rfl Sc.co Sc.gen rfl ⟨c', oc, vso, tq, rfl, hoc, hdc, hvc⟩ ?_
        rw [hb _ _ _ _ us (by rw [← r.length]; exact hl)]
        refine wpAny_pure (wpAny_newFunctionEnv Sc.nocell (fun ⟨n, _⟩ hy => Sc.par n (List.of_mem_zip hy).1) (fun h₁ hns hsb => ⟨lim.fresh _ hsb, ?_⟩) Sc.kind)
        show codeAny _ _ (.expr L.body (NdefX.envF (nfOf L cl c') f s.heap.objs.size)) _ _
        have kp : ∀ b o, s.heap.get? b = some o → h₁.get? b = some o := fun b o e => hsb.extBut b o (Nat.ne_of_lt (Heap.lt_size e)) (Heap.get?_push_of_some _ e)
        have I : Inv (NdefX.ncx CX0 P w K mg base N (nfOf L cl c') f A outer s (noC C H) E0) [] (NdefX.startF N vs (ws.map some)) (noC C H) { s with heap := h₁, toks := s.toks + (ps.zip us).length } := NdefX.inv_startN (F := nfOf L cl c') Sc hr.hd e1 hl r cells hns kp
        -- the frame
        have nfrz : ∀ {a}, a ∈ (Bs.mk H F0 da dn).ms → C a = none := fun {a} m => cOut fun o z => dk.noext a m _ (iH a o z)
        have dk1 : DeckOk ⟨noC C H, noC C F0, da, dn⟩ (noC C H) := DeckOk.keep (B := ⟨noC C H, noC C F0, da, dn⟩) (H := H) dk (fun a m => noC_out (nfrz m)) fun a q e => by
          rw [noC_out (cOut fun o z => ?_)]
          · exact e
          · obtain ⟨_, _, v, hv⟩ := clC_some z
            obtain ⟨⟨oc, vs, t, g1, g2, _⟩, _, _⟩ := e0.hok a _ e
            have g3 := (e0.hok a _ (iH a o z)).1
            rw [g3] at g1
            cases g1
            rw [hv] at g2
            cases g2
        have sm1 : Same (noC C F0) (noC C H) := same_no sm iH iF
        have g0 : Go ⟨noC C H, noC C F0, da, dn⟩ (noC C F0) (noC C H) (noC C F0) (noC C H) := Go.refl sm1 dk1
        have hlen : (es.map Cell.im).length = vs.length := by rw [List.length_map]; exact (dp_same ald).symm
        have R : Rel K ⟨noC C H, noC C F0, da, dn⟩ (es.map .im ++ (ds.map .im ++ List.replicate (N.length - (es.map Cell.im).length - ds.length) .un)) (noC C F0) (noC C H) (NdefX.startF N vs (ws.map some)) := by
          refine ⟨g0, fun a m => ?_, fun a m => ?_, [], ?_, List.nodup_nil, fun _ z => nomatch z⟩
          · rw [noC_out (nfrz m)]; exact (mf a m).1
          · show noC C H a ≠ none
            rw [noC_out (nfrz m)]
            obtain ⟨o, e⟩ := dk.there a m
            rw [e]; exact fun z => by cases z
          · have cr2 := SlotsR.ofCRs (N.length - (es.map Cell.im).length - ds.length) (CRs.ofDp (da := Bs.dd ⟨noC C H, noC C F0, da, dn⟩) (H := noC C H) (DpAll.app (dpAll_no iF ald) (dpAll_no iF alw)))
            have e2 : NdefX.startF N vs (ws.map some) = (vs ++ ws).map some ++ List.replicate (N.length - (es.map Cell.im).length - ds.length) none := by
              unfold NdefX.startF
              rw [List.map_append, List.append_assoc, List.length_map, hlen, dp_same alw]
            rw [e2, ← List.append_assoc, ← List.map_append]
            exact cr2
        have hT := main ds (es.map .im) K' hS cap.len
        have pe := PE.nox (body cl c' f A outer s (noC C H) ⟨noC C H, noC C F0, da, dn⟩ rfl (hr.deeper _))
        refine PySem.W.kla_codeExpr (wpAny_mono (pe.run [] _ _ (noC C H) (fun v H1 => (∀ a o, C a = some o → H1 a = none) → Q v (backC C H H1)) I ⟨_, noC C F0, K', R, hT, fun v F' H1 c fp' g sz cr nd' fr q hn => ?_⟩) (fun v s' hq => ?_) fun e s' hq => hq)
        · have nc : ∀ {b y}, H1 b = some y → C b = none := fun {b y} q => cOut fun o z => by rw [hn b o z] at q; cases q
          have nF : ∀ {b y}, F' b = some y → C b = none := fun {b y} q => nc (g.sub _ _ q)
          refine k1 v (backC C F0 F') (backC C H H1) c ⟨⟨fun a o e => ?_, fun a o m e => ?_, fun a e n => ?_, fun a o e => ?_, ?_⟩, fp', cr.mono (fun a o e => ?_) (fun a m o e => ?_), nd', fun a m => ?_⟩ q
          · cases ca : C a with
            | some q => rw [backC_in ca]; exact e
            | none => rw [backC_out ca]; exact g.ff a o (by rw [noC_out ca]; exact e)
          · have e' : H a = some o := by simpa [exc] using e
            cases ca : C a with
            | some q => rw [backC_in ca]; exact e'
            | none => rw [backC_out ca]; exact g.hh a o m (by rw [noC_out ca]; exact e')
          · have n' : H a ≠ none := by simpa [exc] using n
            cases ca : C a with
            | some q =>
              have h0 := iF a q ca
              have e0' : F0 a = none := e
              rw [e0'] at h0; cases h0
            | none => rw [backC_out ca]; exact g.nw a (by rw [noC_out ca]; exact e) (by rw [noC_out ca]; exact n')
          · cases ca : C a with
            | some q =>
              rw [backC_in ca] at e ⊢
              exact sm _ _ e
            | none =>
              rw [backC_out ca] at e ⊢
              exact g.sub _ _ e
          · refine DeckOk.keep (B := ⟨_, F0, da, dn⟩) (H := H1) g.dk (fun a m => backC_out (nfrz m)) fun a q e => ?_
            rw [backC_out (nc e)]; exact e
          · rw [backC_out (nF e)]; exact e
          · rw [backC_out (nc e)]; exact e
          · obtain ⟨o, e⟩ := cr.there a m
            have ca := nc e
            have := (fr a m).1
            rw [noC_out ca] at this
            have hx : exc H ([] ++ []) a = none := by simpa [exc] using this
            refine ⟨hx, ?_⟩
            rw [backC_out ca]; exact (fr a m).2
        · obtain ⟨x, H', J, rv, q⟩ := hq
          exact ⟨x, H', J.os, J.bare, J.base, J.hok, rv, q⟩
      refine codeAny_mono core fun r s' hq => ?_
      cases r with
      | error e => exact hq
      | ok fl =>
        cases fl with
        | ret u => exact ce_back e0 iH hq fun v H1 n q => q n
        | next => exact hq
        | brk => exact hq
        | cont => exact hq
end DL
set_option maxHeartbeats 1000000
namespace DL
open PySem PySem.Spec PyProof.Rows L2
section
variable {X : Cx} {B : Bs} {e : Expr} {es : List Expr} {UA : XA} {pos p : Pos} {L : LamI} {S : List D → FS} {k k' : Nat} {x : Str}
theorem fnAt_obx {H : Hp} {pins : List (Addr × Obj)} {σ : L2.St} {s : Shared} {f c : Addr} {cl : List (Str × Addr)} {pm ctv : Value} (I : Inv X pins σ H s) (h : H f = some (ObX f (PySem.W.kla_obj "<lambda>" L.qual L.params L.body L.scope cl pm c ctv))) : PySem.W.FnAt f s.heap := by
  have e := (I.hok f _ h).1
  exact ⟨_, _, _, _, e⟩
def tCallF (K : PySem.W.Frag) (dn : Dn) (L : LamI) (S : List D → FS) (i : Nat) (t : TA) : TE := fun σ H Q => ∃ f c cl pm ctv, σ[i]? = some (some (.ref f)) ∧ H f = some (ObX f (PySem.W.kla_obj "<lambda>" L.qual L.params L.body L.scope cl pm c ctv)) ∧
  t σ H fun vs H1 => H1 f = some (ObX f (PySem.W.kla_obj "<lambda>" L.qual L.params L.body L.scope cl pm c ctv)) ∧ spOf K dn (lamFS L S) (.ref f :: vs) H1 Q E0
theorem pe_callF {i : Nat} {dn : Dn} {t : TA} (C : LamP X.prog X.w X.K X.mg X.base dn k L S) (hr : Room k' X.A) (hk : k ≤ k') (hN : X.N[i]? = some x) (hv : Vis X.env.scope x) (ha : PA X (e :: es) t)
    (hd : (x == ("__debug__" : Str)) = false := by decide) (hcd : (x == ("__classdict__" : Str)) = false := by decide)
    (he : starEach (e :: es) X.env = (false, eval e X.env) :: starEach es X.env := by rfl) (hpl : (backTo pos (starEach es X.env)).any (·.1) = false := by rfl) :
    PE X (.Call (.Name x p) (e :: es) [] pos) (tCallF X.K dn L S i t) := by
  refine ⟨fun pins s σ H Q I h => ?_⟩
  obtain ⟨f, c, cl, pm, ctv, hs, hf, ht⟩ := h
  refine wpAny_Call_Name_kw (thn ((pe_var (pos := p) hN hv hd hcd).run pins s σ H (fun v H1 => v = .ref f ∧ H1 = H) I ⟨.ref f, hs, rfl, rfl⟩) fun u s1 ⟨v, H1, I1, r1, q1⟩ => ?_)
  obtain ⟨ev, eH⟩ := q1
  subst ev
  rw [eH] at I1
  obtain rfl : u = Value.ref f := r1
  refine PySem.W.callWith_F (first := []) (fnAt_obx I1 hf) (thn (ha.run pos pins s1 σ H _ I1 ht) fun us s2 ⟨vs, H2, I2, r, h1, q⟩ => ⟨fnAt_obx I2 h1, ?_⟩) he hpl
  show wpAny _ _ (call (.ref f) us) _ _ _
  refine wpAny_call (codeAny_mono (C X.A X.stack s2 H2 f us vs Q (hr.mono hk) I2.env0 r q) fun r s' hq => ?_)
  cases r with
  | error e => exact hq.elim
  | ok fl =>
    cases fl with
    | ret u => exact I2.after hq
    | next => exact False.elim hq
    | brk => exact False.elim hq
    | cont => exact False.elim hq
@[simp] def xCallF (i : Nat) (L : LamI) (S : List D → FS) (U : XA) : XE := fun γ K => ∃ ds, γ[i]? = some (.fn L ds) ∧ U γ fun cs => S ds cs K
theorem LamP.de {i : Nat} (C : LamP X.prog X.w X.K X.mg X.base B.dn k L S) (hr : Room k' X.A) (hk : k ≤ k') (ha : DA X B (e :: es) UA) (hN : X.N[i]? = some x := by rfl) (hv : Vis X.env.scope x := by first | exact Or.inl rfl | exact Or.inr (Or.inl rfl) | exact Or.inr (Or.inr rfl))
    (hd : (x == ("__debug__" : Str)) = false := by decide) (hcd : (x == ("__classdict__" : Str)) = false := by decide)
    (he : starEach (e :: es) X.env = (false, eval e X.env) :: starEach es X.env := by rfl) (hpl : (backTo pos (starEach es X.env)).any (·.1) = false := by rfl) : DE X B (.Call (.Name x p) (e :: es) [] pos) (xCallF i L S UA) :=
  pe_imp (pe_callF C hr hk hN hv ha hd hcd he hpl) fun σ H Q ⟨γ, F, Q', R, ⟨ds, ei, hU⟩, kk⟩ _ => by
    obtain ⟨v, f, h1, h2, h3, h4⟩ := R.get ei (by intro z; cases z)
    cases h2 with
    | @fn fa c cl pm ctv _ _ hf hc cap =>
      have gk : Gives X.K B F H Q' Q := kk
      exact ⟨fa, c, cl, pm, ctv, h1, R.sub _ _ hf, γ, F, _, R, hU, fun vs F1 H1 cs fp g crs nd fr q => ⟨g.sub _ _ (g.ff _ _ hf),
        call_core (S := lamFS L S) (cs := .fn L ds :: cs) (fp := fp) R gk g (CRs.cons (f := []) (.fn (g.ff _ _ hf) (g.ff _ _ hc) (cap.mono g.ff)) crs) nd fr ⟨ds, cs, rfl, q⟩⟩⟩
theorem lam_make {T : List (Addr × Str)} {c P : Addr} {params : Arguments} {body : Expr} {scope : Scope} {pins : List (Addr × Obj)} {σ : L2.St} {H : Hp} {s : Shared} {E : Value → Shared → Prop} {Q : Value → Shared → Prop} (I : Inv X pins σ H s) (TB : LamX.TabB X.base X.mg c P) (hcode : X.env.code = .ref c)
    (hm : (P, X.env.qual ++ "<lambda>") ∈ T) (hu : ∀ p ∈ T, p.1 = P → p.2 = X.env.qual ++ "<lambda>") (hT : LamX.Tabs T H) (hdef : defaultsOf params X.env = ([], [])) (hfree : ∀ y ∈ scope.names, y.2 = .free → ∃ c, X.env.cells.lookup y.1 = some c)
    (h : ∀ (f c' : Addr) (pm ctv : Value) (H1 : Hp) (s' : Shared), Inv X pins σ H1 s' → (H1 = H ∨ ∃ ps more, H P = some (.tbl ps) ∧ H c' = none ∧ H1 = upd (upd H P (.tbl (ps ++ more))) c' (LamX.CodeO c' (X.env.qual ++ "<lambda>"))) → LamX.Tabs T H1 →
      s'.heap.get? f = some (PySem.W.kla_obj "<lambda>" (X.env.qual ++ "<lambda>") params body scope (cloFrom X.env.cells scope.names []) pm c' ctv) → H1 f = none → s.heap.objs.size ≤ f → H1 c' = some (LamX.CodeO c' (X.env.qual ++ "<lambda>")) → Q (.ref f) s') :
    wpAny (model X.prog X.w) X.A (eval (.Lambda params body scope pos) X.env) Q E s := by
  obtain ⟨ps, hP, ht, ha⟩ := hT _ hm
  refine PySem.W.kla_eval hdef ?_
  have bP : s.heap.BuiltinsAt X.mg P := TB.bm.keeps I.bk
  have hP' : s.heap.get? P = some { cls := .none, data := .fields ps } := I.hok P _ hP
  cases hc : codeAmong pos ps.toList with
  | none =>
    refine PySem.W.kla_makeFunction (mg := X.mg) (c := c) (P := P) (ps := ps) (closure_ok hfree) I.ok.glob (I.mod.glob.keeps I.bk) hcode (TB.code.keeps I.bk) hP' ht hc TB.gP bP fun c' ctv h' tk hx hge hlt hrec htb => ?_
    obtain ⟨c2, oc, vs, t, e2, hoc, hd, hv⟩ := hrec
    cases e2
    have hsz : s.heap.objs.size ≤ h'.objs.size := Nat.le_trans hge (Nat.le_of_lt hlt)
    have nC : H c' = none := I.hok.fresh hge
    have I1 := LamX.inv_table (t' := tk) (more := #[rawInt pos.line, rawInt pos.col, .ref c']) (h' := h'.push (PySem.W.kla_obj "<lambda>" (X.env.qual ++ "<lambda>") params body scope (cloFrom X.env.cells scope.names []) ((X.mg "__name__").getD .none) c' ctv)) I hP
      (fun b o hb e => Heap.get?_push_of_some _ (hx b o hb e)) (Heap.get?_push_of_some _ htb) hge ⟨oc, vs, t, Heap.get?_push_of_some _ hoc, hd, hv⟩
    have eL : (ps ++ #[rawInt pos.line, rawInt pos.col, .ref c']).toList = ps.toList ++ [rawInt pos.line, rawInt pos.col, .ref c'] := by simp
    have stay : ∀ b q, H b = some (LamX.CodeO b q) → upd (upd H P (.tbl (ps ++ #[rawInt pos.line, rawInt pos.col, .ref c']))) c' (LamX.CodeO c' (X.env.qual ++ "<lambda>")) b = some (LamX.CodeO b q) := fun b q e => by
      rw [upd_ne (ne_of_none e nC), upd_ne (ne_of e hP fun z => LamX.codeO_ne ps z)]
      exact e
    refine h h'.objs.size c' ((X.mg "__name__").getD .none) ctv _ _ I1 (.inr ⟨ps, _, hP, nC, rfl⟩) (fun p hp => ?_) (Heap.get?_push_size _ rfl) ?_ hsz upd_same
    · by_cases hb : p.1 = P
      · rw [hu p hp hb, hb]
        refine ⟨_, by rw [upd_ne (ne_of_none hP nC), upd_same], by rw [eL]; exact PySem.TriplesOk_snoc _ _ _ _ ht, fun p' cv hcv => ?_⟩
        rw [eL] at hcv
        rcases LamX.among_app _ ht hcv with z | z
        · obtain ⟨c0, e1, e2⟩ := ha p' cv z
          exact ⟨c0, e1, stay _ _ e2⟩
        · exact ⟨c', z, upd_same⟩
      · obtain ⟨ps', a1, a2, a3⟩ := hT p hp
        refine ⟨ps', by rw [upd_ne (ne_of_none a1 nC), upd_ne hb]; exact a1, a2, fun p' cv hcv => ?_⟩
        obtain ⟨c0, e1, e2⟩ := a3 p' cv hcv
        exact ⟨c0, e1, stay _ _ e2⟩
    · have n1 : h'.objs.size ≠ c' := Nat.ne_of_gt hlt
      have n2 : h'.objs.size ≠ P := Nat.ne_of_gt (Nat.lt_of_lt_of_le (Heap.lt_size hP') hsz)
      rw [upd_ne n1, upd_ne n2]
      exact I.hok.fresh hsz
  | some cv =>
    obtain ⟨c', e, hco⟩ := ha pos cv hc
    subst e
    refine PySem.W.kla_makeFunctionHit (mg := X.mg) (c := c) (P := P) (ps := ps) (closure_ok hfree) I.ok.glob (I.mod.glob.keeps I.bk) hcode (TB.code.keeps I.bk) hP' ht hc bP fun ctv h' tk hx hsz => ?_
    have I1 : Inv X pins σ H { s with heap := h'.push (PySem.W.kla_obj "<lambda>" (X.env.qual ++ "<lambda>") params body scope (cloFrom X.env.cells scope.names []) ((X.mg "__name__").getD .none) c' ctv), toks := tk } := I.kept fun b o e => Heap.get?_push_of_some _ (hx b o e)
    exact h h'.objs.size c' ((X.mg "__name__").getD .none) ctv H _ I1 (.inl rfl) hT (Heap.get?_push_size _ rfl) (I.hok.fresh hsz) hsz hco
/-- what the making does to the frame -/
theorem go_make {F H H1 : Hp} {P c' : Addr} {q : Str} {γ : List Cell} {σ : L2.St} (R : Rel X.K B γ F H σ) (hm : P ∈ B.dn.tb.map (·.1)) (hT : LamX.Tabs B.dn.tb H1) (h : H1 = H ∨ ∃ ps more, H P = some (.tbl ps) ∧ H c' = none ∧ H1 = upd (upd H P (.tbl (ps ++ more))) c' (LamX.CodeO c' q)) : Go B F H F H1 := by
  rcases h with e | ⟨ps, more, hP, nC, e⟩
  · subst e; exact R.refl
  · subst e
    have mP : P ∈ B.ms := List.mem_append_left _ hm
    have at_ : ∀ {a o}, a ≠ P → H a = some o → upd (upd H P (.tbl (ps ++ more))) c' (LamX.CodeO c' q) a = some o := fun {a o} n e => by rw [upd_ne (ne_of_none e nC), upd_ne n]; exact e
    refine ⟨Same.refl F, fun a o m e => at_ (fun z => m (z ▸ mP)) e, fun a e _ => e, fun a o e => at_ (fun z => ?_) (R.sub a o e), hT, ?_⟩
    · have := R.mf P mP
      rw [z, this] at e; cases e
    · have d := R.dk.2
      unfold DeckP at d ⊢
      cases ed : B.da with
      | none => trivial
      | some p =>
        obtain ⟨x, y⟩ := p
        rw [ed] at d
        obtain ⟨ne, ns, mm, t, h1, h2, h3⟩ := d
        exact ⟨ne, ns, mm, t, at_ (ne_of h1 hP fun z => by cases z) h1, at_ (ne_of h2 hP fun z => by cases z) h2, h3⟩
theorem inv_pin {pins : List (Addr × Obj)} {σ : L2.St} {H : Hp} {s : Shared} {f : Addr} {o : Obj} (I : Inv X pins σ H s) (e : s.heap.get? f = some o) (n : H f = none) (n1 : f ≠ X.env.locals) (n2 : f ∉ X.fs) (n3 : ∀ v, o.data ≠ .cell v) : Inv X ((f, o) :: pins) σ H s := by
  refine ⟨I.ok, I.os, I.bare, I.base, I.loc, I.cell, I.free, I.freeC, fun p hp => ?_, I.hok, I.len⟩
  rcases List.mem_append.mp hp with m | m
  · exact I.pin p (List.mem_append_left _ m)
  · rcases List.mem_cons.mp m with z | m
    · subst z; exact ⟨e, n, n1, n2, n3⟩
    · exact I.pin p (List.mem_append_right _ m)
theorem inv_unpin {pins : List (Addr × Obj)} {σ : L2.St} {H : Hp} {s : Shared} {q : Addr × Obj} (I : Inv X (q :: pins) σ H s) : Inv X pins σ H s := by
  refine ⟨I.ok, I.os, I.bare, I.base, I.loc, I.cell, I.free, I.freeC, fun p hp => ?_, I.hok, I.len⟩
  rcases List.mem_append.mp hp with m | m
  · exact I.pin p (List.mem_append_left _ m)
  · exact I.pin p (List.mem_append_right _ (List.mem_cons_of_mem _ m))
end
end DL
set_option maxHeartbeats 1000000
namespace DL
open PySem PySem.Spec PyProof.Rows L2
section
variable {K : PySem.W.Frag} {F F' : Hp}
mutual
theorem dp_sub (k : ∀ a o, F a = some o → (∀ φ, o ≠ .ext φ) → F' a = some o) : ∀ {v : V} {d : D}, Dp K F v d → Dp K F' v d
  | _, _, .non => .non
  | _, _, .bl b => .bl b
  | _, _, .int i => .int i
  | _, _, .str x => .str x
  | _, _, .lst h hs => .lst (by
      rcases h with (h | ⟨o, h⟩) | h
      · exact .inl (.inl (k _ _ h fun φ z => by cases z))
      · exact .inl (.inr ⟨o, k _ _ h fun φ z => by cases z⟩)
      · exact .inr h) (dpAll_sub k hs)
  | _, _, .tup h hs => .tup (by
      rcases h with (h | ⟨o, h⟩) | h
      · exact .inl (.inl (k _ _ h fun φ z => by cases z))
      · exact .inl (.inr ⟨o, k _ _ h fun φ z => by cases z⟩)
      · exact .inr h) (dpAll_sub k hs)
theorem dpAll_sub (k : ∀ a o, F a = some o → (∀ φ, o ≠ .ext φ) → F' a = some o) : ∀ {vs : List V} {ds : List D}, DpAll K F vs ds → DpAll K F' vs ds
  | _, _, .nil => .nil
  | _, _, .cons h hs => .cons (dp_sub k h) (dpAll_sub k hs)
end
end
theorem code_ne {h : Heap} {b : Addr} {q : Str} {o : Obj} (e : h.get? b = some o) (n : ∀ vs, o.data ≠ .fields vs) : LamX.CodeO b q ≠ ObX b o := fun z => by
  have z1 : (fun h : Heap => ∃ (oc : Obj) (vs : Array Value) (t : Tok), h.get? b = some oc ∧ oc.data = .fields vs ∧ vs[1]? = some (.str q t)) = fun h : Heap => h.get? b = some o := by
    have := z
    unfold LamX.CodeO ObX at this
    injection this
  have z2 : ∃ (oc : Obj) (vs : Array Value) (t : Tok), h.get? b = some oc ∧ oc.data = .fields vs ∧ vs[1]? = some (.str q t) := by
    have := congrFun z1 h
    rw [this]; exact e
  obtain ⟨oc, vs, t, g1, g2, _⟩ := z2
  rw [e] at g1
  cases g1
  exact n _ g2
section
variable {X : Cx} {B : Bs} {es : List Expr} {UA : XA} {pos p lpos : Pos} {S : FS} {k k' : Nat} {x : Str} {st : Stmt} {ps fr : List Str} {js : List Nat} {params : Arguments} {body : Expr} {scope : Scope} {c P : Addr}
/-- the captured slots' data -/
@[simp] def xCallL (S : FS) (L : LamI) (js : List Nat) (U : XA) : XE := fun γ K => ∃ ds : List D, js.map (fun j => γ[j]?) = ds.map (fun d => some (Cell.im d)) ∧ U γ fun cs => S (.fn L ds :: cs) fun c => (∃ d, c = .im d) ∧ K c
theorem Cal.deL (C : Cal X.prog X.w X.K X.mg X.base B.dn k x st ps S) (hr : Room k' X.A) (hk : k ≤ k') (hg : Gl X x) (TB : LamX.TabB X.base X.mg c P) (hcode : X.env.code = .ref c) (hmT : (P, X.env.qual ++ "<lambda>") ∈ B.dn.tb) (hu : ∀ p ∈ B.dn.tb, p.1 = P → p.2 = X.env.qual ++ "<lambda>")
    (hdef : defaultsOf params X.env = ([], [])) (hfree : ∀ y ∈ scope.names, y.2 = .free → X.env.scope.names.lookup y.1 = some .cell ∨ X.env.scope.names.lookup y.1 = some .free) (hfr : ∀ y ∈ fr, (y, NameKind.free) ∈ scope.names) (hfr2 : ∀ y ∈ scope.names, y.2 = .free → y.1 ∈ fr)
    (hjs : js.map (fun j => X.N[j]?) = fr.map some) (hfn : ∀ y, X.fn y = true) (ha : DA X B es UA) (hdb : (x == ("__debug__" : Str)) = false := by decide)
    (he : starEach (.Lambda params body scope lpos :: es) X.env = (false, eval (.Lambda params body scope lpos) X.env) :: starEach es X.env := by rfl) (hpl : (backTo pos (starEach es X.env)).any (·.1) = false := by rfl) :
    DE X B (.Call (.Name x p) (.Lambda params body scope lpos :: es) [] pos) (xCallL S ⟨X.env.qual ++ "<lambda>", params, body, scope, fr⟩ js UA) := by
  obtain ⟨fc, fd, hm, Fp, hb, hF⟩ := C.ex
  refine ⟨fun pins s σ H Q I ⟨γ, F, Q', R, ⟨ds, hds, hU⟩, kk⟩ => ?_⟩
  have hfree' : ∀ y ∈ scope.names, y.2 = .free → ∃ c, X.env.cells.lookup y.1 = some c := fun y hy e => (hfree y hy e).elim (fun z => I.ok.has _ (.inl z)) fun z => I.ok.has _ (.inr z)
  refine wpAny_Call_Name_kw (ld_glob I hg hm ?_ hdb)
  refine PySem.W.callWith_K (h₀ := X.base) I.ok.mod.kin Fp.kp ?_ he hpl
  rw [he]
  show wpAny _ _ (spliced ((false, eval (.Lambda params body scope lpos) X.env) :: backTo pos (starEach es X.env))) _ _ s
  refine Calls.spliced_cons (lam_make (T := B.dn.tb) I TB hcode hmT hu R.dk.1 hdef hfree' fun f c' pm ctv H1 s1 I1 hH1 T1 hf hfn' hfs hco => ?_)
  have g1 := go_make R (List.mem_map.mpr ⟨_, hmT, rfl⟩) T1 hH1
  have R1 := R.step g1
  have hfl : f ≠ X.env.locals := fun z => by
    have := I.lt
    rw [← z] at this
    exact absurd (Nat.lt_of_lt_of_le this hfs) (Nat.lt_irrefl _)
  have hffs : f ∉ X.fs := I.nofs hfs
  have I1p := inv_pin I1 hf hfn' hfl hffs (fun v z => by cases z)
  refine thn (ha.run pos _ s1 σ H1 (fun vs H2 => ∃ F2 cs fp, Go B F H1 F2 H2 ∧ CRs X.K B.dd F2 H2 vs cs fp ∧ fp.Nodup ∧ (∀ a ∈ fp, H1 a = none ∧ F2 a = none) ∧ S (.fn ⟨X.env.qual ++ "<lambda>", params, body, scope, fr⟩ ds :: cs) fun c => (∃ d, c = .im d) ∧ Q' c) I1p
    ⟨γ, F, _, R1, hU, fun vs F2 H2 cs fp g crs nd fr q => ⟨F2, cs, fp, g, crs, nd, fr, q⟩⟩) fun us s2 ⟨vs, H2, I2p, r, F2, cs, fp, g2, crs, nd, frs2, hS⟩ => ⟨I2p.kIn, ?_⟩
  have I2 := inv_unpin I2p
  obtain ⟨pf1, pf2, pf3, pf4, _⟩ := I2p.pin (f, _) (List.mem_append_right _ List.mem_cons_self)
  have R2 := R1.step g2
  have cap := NdefX.cells_of I2 (NdefX.Caps.made (scope := scope) (fr := fr) (js := js) I2.ok hfree hfr hjs)
  let cl := cloFrom X.env.cells scope.names []
  let ob := PySem.W.kla_obj "<lambda>" (X.env.qual ++ "<lambda>") params body scope cl pm c' ctv
  have capAll : ∀ y a, cl.lookup y = some a → H2 a = none ∧ ∃ v, s2.heap.IsCell a v := cap.all
  have clm : ∀ y a, cl.lookup y = some a → X.env.cells.lookup y = some a := fun y a e => NdefX.clo_cm hfree' e
  obtain ⟨Cc, hCc⟩ : ∃ Cc : Addr → Option Obj, ∀ a o, Cc a = some o ↔ (a = f ∧ o = ob) ∨ (a ≠ f ∧ (∃ y, cl.lookup y = some a) ∧ s2.heap.get? a = some o) := by
    classical
    refine ⟨fun a => if a = f then some ob else if ∃ y, cl.lookup y = some a then s2.heap.get? a else none, fun a o => ?_⟩
    by_cases h1 : a = f
    · simp [h1, eq_comm]
    · by_cases h2 : ∃ y, cl.lookup y = some a
      · simp only [h1, h2, if_true, if_false]
        constructor
        · intro z; exact .inr ⟨h1, trivial, z⟩
        · rintro (⟨z, _⟩ | ⟨_, _, z⟩)
          · exact z.elim
          · exact z
      · simp [h1, h2]
  have kC : ∀ a o, Cc a = some o → H2 a = none ∧ s2.heap.get? a = some o := fun a o e => by
    rcases (hCc a o).mp e with ⟨rfl, rfl⟩ | ⟨_, ⟨y, hy⟩, e2⟩
    · exact ⟨pf2, pf1⟩
    · exact ⟨(capAll y a hy).1, e2⟩
  have kD : ∀ a o, Cc a = some o → ∀ vs, o.data ≠ .fields vs := fun a o e vs z => by
    rcases (hCc a o).mp e with ⟨rfl, rfl⟩ | ⟨_, ⟨y, hy⟩, e2⟩
    · cases z
    · obtain ⟨v, o', ho, hd⟩ := (capAll y a hy).2
      rw [e2] at ho; cases ho
      rw [hd] at z; cases z
  have kB : ∀ a o, Cc a = some o → X.base.get? a = none ∧ a ∉ frs X.stack := fun a o e => by
    rcases (hCc a o).mp e with ⟨rfl, rfl⟩ | ⟨_, ⟨y, hy⟩, e2⟩
    · refine ⟨?_, fun z => ?_⟩
      · cases eb : X.base.get? a with
        | none => rfl
        | some o => exact absurd (Nat.lt_of_lt_of_le (Heap.lt_size (I.bs a o eb).1) hfs) (Nat.lt_irrefl _)
      · rcases List.mem_cons.mp (I2.stkSub _ z) with e | e
        · exact pf3 e
        · exact pf4 e
    · have hc := clm y a hy
      have ge := I2.ok.cab y a (hfn y) hc
      refine ⟨?_, fun z => ?_⟩
      · cases eb : X.base.get? a with
        | none => rfl
        | some o => exact absurd (Nat.lt_of_lt_of_le (Heap.lt_size eb) (Nat.le_trans I2.ok.bsz ge)) (Nat.lt_irrefl _)
      · rcases List.mem_cons.mp (I2.stkSub _ z) with e | e
        · exact I2.cne y a hc e
        · obtain ⟨_, o', ho, _⟩ := I2.ok.funs.mem e
          exact absurd (Nat.lt_of_lt_of_le (Heap.lt_size ho) ge) (Nat.lt_irrefl _)
  have nc : ∀ {b y}, H2 b = some y → Cc b = none := fun {b y} q => cOut fun o z => by rw [(kC b o z).1] at q; cases q
  have hco2 : H2 c' = some (LamX.CodeO c' (X.env.qual ++ "<lambda>")) := g2.hh _ _ (fun m => R1.dk.noext _ m _ hco) hco
  let G2 : Hp := upd F2 c' (LamX.CodeO c' (X.env.qual ++ "<lambda>"))
  have sG : Same F2 G2 := fun a o e => by
    by_cases z : a = c'
    · subst z
      have := R2.sub _ _ e
      rw [hco2] at this
      cases this
      exact upd_same
    · rw [show G2 a = F2 a from upd_ne z]; exact e
  have sGH : Same G2 H2 := fun a o e => by
    by_cases z : a = c'
    · subst z
      rw [show G2 a = some _ from upd_same] at e
      cases e; exact hco2
    · rw [show G2 a = F2 a from upd_ne z] at e
      exact R2.sub _ _ e
  have sA : Same (addC Cc G2) (addC Cc H2) := fun a o e => by
    cases ca : Cc a with
    | some q => rw [addC_in ca] at e ⊢; exact e
    | none => rw [addC_out ca] at e ⊢; exact sGH _ _ e
  have sFA : Same F2 (addC Cc G2) := fun a o e => by
    rw [addC_out (nc (R2.sub _ _ e))]; exact sG _ _ e
  have ncm : ∀ {a}, a ∈ B.ms → Cc a = none := fun {a} m => by
    obtain ⟨o, e⟩ := R2.dk.there a m
    exact nc e
  have dkA : DeckOk B (addC Cc H2) := R2.dk.keep (fun a m => addC_out (ncm m)) fun a q e => by rw [addC_out (nc e)]; exact e
  have fpC : ∀ a ∈ fp, Cc a = none ∧ a ≠ c' ∧ H2 a ≠ none := fun a m => by
    obtain ⟨o, e⟩ := crs.there a m
    refine ⟨nc e, fun z => ?_, by rw [e]; exact fun z => by cases z⟩
    subst z
    exact crs.noext _ m _ hco2
  have fp0 : ∀ a ∈ fp, H a = none := fun a m => g1.none (frs2 a m).1
  have crs' : CRs X.K B.dd (addC Cc G2) (addC Cc H2) (.ref f :: vs) (.fn ⟨X.env.qual ++ "<lambda>", params, body, scope, fr⟩ ds :: cs) ([] ++ fp) := by
    refine .cons (.fn (pm := pm) (ctv := ctv) (cl := cl) (c := c') (addC_in ((hCc f ob).mpr (.inl ⟨rfl, rfl⟩))) ?_ ⟨?_, fun y z a e1 e2 => I2.ok.inj y z a (clm y a e1) (clm z a e2), fun i y hy => ?_, fun y a e => ?_⟩) (crs.mono sFA fun a m o e => by rw [addC_out (nc e)]; exact e)
    · rw [addC_out (nc hco2)]; exact upd_same
    · have l1 := congrArg List.length hjs
      have l2 := congrArg List.length hds
      rw [List.length_map, List.length_map] at l1 l2
      show ds.length = fr.length
      omega
    · obtain ⟨a, ha1, ha2⟩ := cap.has i y hy
      have hi : (js.map fun j => X.N[j]?)[i]? = some (some y) := by rw [hjs, List.getElem?_map, hy]; rfl
      rw [List.getElem?_map] at hi
      cases ej : js[i]? with
      | none => rw [ej] at hi; cases hi
      | some j =>
        have hd : (js.map fun j => γ[j]?)[i]? = some (γ[j]?) := by rw [List.getElem?_map, ej]; rfl
        rw [hds, List.getElem?_map] at hd
        cases ed : ds[i]? with
        | none => rw [ed] at hd; cases hd
        | some d =>
          rw [ed] at hd
          have eg : γ[j]? = some (.im d) := (Option.some.inj hd).symm
          obtain ⟨v, ff, h1, h2, _, _⟩ := R2.get eg (by intro z; cases z)
          obtain ⟨u, ru, o, ho, hdta⟩ := ha2 v (by rw [List.getElem?_map, ej]; show some (NdefX.slotAt σ j) = _; rw [NdefX.slotAt_of h1])
          have naf : a ≠ f := fun z => by
            rw [z, pf1] at ho
            cases ho
            cases hdta
          have ca : Cc a = some o := (hCc a o).mpr (.inr ⟨naf, ⟨y, ha1⟩, ho⟩)
          cases h2 with
          | im h2 => exact ⟨a, v, d, o, u, ha1, rfl, Dp.mono sFA h2, addC_in ca, hdta, ru⟩
    · rcases cloFrom_mem (PySem.mem_of_lookup e) with z | ⟨z, _⟩
      · cases z
      · exact hfr2 _ z rfl
  rw [List.nil_append] at crs'
  have hl : (vs.length + 1) = ps.length := by
    have := hF.len (.ref f :: vs) (addC Cc H2) (fun _ _ => True) E0 ⟨addC Cc G2, B.da, _, fp, _, sA, dkA, fun a m => ⟨by rw [addC_out (ncm m)]; rw [show G2 a = F2 a from upd_ne fun z => R2.dk.noext a m _ (z ▸ hco2)]; exact R2.mf a m, fun z => not_ms R1.dk (frs2 a z).1 m⟩, crs', nd, fun a m => by
      rw [addC_out (fpC a m).1, show G2 a = F2 a from upd_ne (fpC a m).2.1]; exact (frs2 a m).2, hS, fun _ _ _ _ _ _ => trivial⟩
    simpa using this
  have r' : Vals (.ref f :: vs) (.ref f :: us) := .cons rfl r
  have hrun := hF.run X.A X.stack s2 (addC Cc H2) ⟨.ref f :: us, []⟩ (.ref f :: us) (.ref f :: vs) (fun v H' => InC Cc H' ∧ (SzH X.K (noC Cc H') → Q v (noC Cc H'))) E0 (hr.mono hk) (env_add I2.env0 kC kB)
    (by
      have := hb s2 (.ref f :: us) I2.kIn (by rw [List.append_nil, List.length_cons, ← r.length]; exact hl)
      rwa [List.append_nil] at this) r' ⟨addC Cc G2, B.da, _, fp, _, sA, dkA, fun a m => ⟨by rw [addC_out (ncm m)]; rw [show G2 a = F2 a from upd_ne fun z => R2.dk.noext a m _ (z ▸ hco2)]; exact R2.mf a m, fun z => not_ms R1.dk (frs2 a z).1 m⟩, crs', nd, fun a m => by
      rw [addC_out (fpC a m).1, show G2 a = F2 a from upd_ne (fpC a m).2.1]; exact (frs2 a m).2, hS, fun v F' H' cc ⟨go, fp', cr, nd', fr'⟩ ⟨⟨d, ed⟩, q⟩ => ?_⟩
  · refine wpAny_call (codeAny_mono hrun fun r s' hq => ?_)
    cases r with
    | error e => exact hq.elim
    | ok fl =>
      cases fl with
      | ret u =>
        have e := I2.after (ce_no (Q := fun v H' => SzH X.K H' → Q v H') kC hq fun v H1 q => q)
        obtain ⟨v, H', I', r', q'⟩ := e
        exact ⟨v, H', I', r', q' (inv_sz I')⟩
      | next => exact False.elim hq
      | brk => exact False.elim hq
      | cont => exact False.elim hq
  · subst ed
    cases cr with
    | im hd =>
      have nfp : ∀ {a}, H2 a = none → a ∉ fp := fun h m => (fpC _ m).2.2 h
      have inC : InC Cc H' := fun a o e => by
        refine go.hh a _ (fun m => ?_) ?_
        · rw [ncm m] at e; cases e
        · show exc (addC Cc H2) fp a = _
          rw [exc_out (nfp (kC a o e).1)]
          exact addC_in e
      refine ⟨inC, fun sz => ?_⟩
      have step : ∀ {a o}, F2 a = some o → F' a = some o := fun {a o} e => go.ff _ _ (sFA _ _ e)
      classical
      let Fm : Hp := fun a => if (Cc a).isSome ∨ (a = c' ∧ F2 a = none) then none else F' a
      have fm_out : ∀ {a}, Cc a = none → ¬(a = c' ∧ F2 a = none) → Fm a = F' a := fun {a} h1 h2 => by
        show (if (Cc a).isSome ∨ (a = c' ∧ F2 a = none) then none else F' a) = F' a
        rw [if_neg]
        rintro (z | z)
        · rw [h1] at z; cases z
        · exact h2 z
      have fm_some : ∀ {a o}, Fm a = some o → F' a = some o ∧ Cc a = none := fun {a o} e => by
        have e' : (if (Cc a).isSome ∨ (a = c' ∧ F2 a = none) then none else F' a) = some o := e
        split at e'
        · cases e'
        · rename_i h
          refine ⟨e', ?_⟩
          cases ca : Cc a with
          | none => rfl
          | some q => exact absurd (.inl (by rw [ca]; rfl)) h
      refine kk v Fm (noC Cc H') (.im d) [] ⟨fun a o e => ?_, fun a o m e => ?_, fun a e n => ?_, fun a o e => ?_, ?_⟩ sz (.im (dp_sub (fun a o e n => ?_) hd)) List.nodup_nil (fun _ m => nomatch m) q
      · have e2 := g2.ff _ _ (g1.ff _ _ e)
        rw [fm_out (nc (R2.sub _ _ e2)) fun z => by rw [e2] at z; cases z.2]
        exact step e2
      · have e1 := g1.hh a o m e
        have e2 := g2.hh a o m e1
        rw [noC_out (nc e2)]
        refine go.hh a o m ?_
        show exc (addC Cc H2) fp a = _
        rw [exc_out (fun z => by rw [(frs2 a z).1] at e1; cases e1), addC_out (nc e2)]
        exact e2
      · have n1 := g1.there n
        have n2 := g2.there n1
        have f2 := g2.nw a (g1.nw a e n) n1
        have ca : Cc a = none := by
          cases eh : H2 a with
          | none => exact absurd eh n2
          | some o => exact nc eh
        by_cases z : a = c'
        · show (if (Cc a).isSome ∨ (a = c' ∧ F2 a = none) then none else F' a) = none
          rw [if_pos (.inr ⟨z, f2⟩)]
        · rw [fm_out ca fun y => z y.1]
          refine go.nw a ?_ ?_
          · show addC Cc G2 a = none
            rw [addC_out ca, show G2 a = F2 a from upd_ne z]; exact f2
          · show exc (addC Cc H2) fp a ≠ none
            rw [exc_out fun y => n1 (frs2 a y).1, addC_out ca]; exact n2
      · obtain ⟨e1, ca⟩ := fm_some e
        rw [noC_out ca]; exact go.sub _ _ e1
      · refine DeckOk.keep (B := B) (H := H') go.dk (fun a m => noC_out (ncm m)) fun a q e => ?_
        rw [noC_out (cOut fun o z => ?_)]
        · exact e
        · have := inC a o z
          rw [e] at this
          exact code_ne (kC a o z).2 (kD a o z) (Option.some.inj this)
      · cases ca : Cc a with
        | some q =>
          have := go.ff a _ (show addC Cc G2 a = _ from addC_in ca)
          rw [e] at this
          exact absurd (Option.some.inj this) (n _)
        | none =>
          rw [fm_out ca]
          · exact e
          · rintro ⟨z, _⟩
            subst z
            have := go.ff a _ (show addC Cc G2 a = _ from (addC_out ca).trans upd_same)
            rw [e] at this
            exact absurd (Option.some.inj this) (n _)
end
end DL
set_option maxHeartbeats 1000000
namespace DL
open PySem PySem.Spec PyProof.Rows L2
/-- return f(lambda .., ..): the lambda -/
def lamArg (st : Stmt) : Expr := match st with
  | .Return (some (.Call _ (e :: _) _ _)) _ => e
  | _ => .Name "" ⟨0, 0, 0, 0⟩
def lamI (e : Expr) (qual : Str) (fr : List Str) : LamI := match e with
  | .Lambda p b s _ => ⟨qual, p, b, s, fr⟩
  | _ => ⟨qual, ⟨[], [], none, [], [], none, []⟩, .Name "" ⟨0, 0, 0, 0⟩, ⟨.function, [], false, false, []⟩, fr⟩
section
variable {P : Program} {w : World} {K : PySem.W.Frag} {mg : Str → Option Value} {base : Heap}
theorem fn_okC {x : Str} {st : Stmt} {f c : Addr} {fd : FuncData} {N ps : List Str} {k : Nat} {dn : Dn} {S : FS} {T : XS} (F : FnP K x st f fd) (hcd : fd.code = .ref c) (Sc : FnScope N ps (defScope st)) (len : ∀ cs K', S cs K' → cs.length = ps.length)
    (body : ∀ (A : Around) (outer : List Env) (s : Shared) (H : Hp) (E : XK) (B : Bs), B.dn = dn → Room k (A.deeper (envOfC x (defScope st) s.heap.objs.size f (.ref c))) → DSs (cxOf CX0 P w K mg base N x (defScope st) f (.ref c) A outer s H E).nox B (defBody st) T)
    (main : ∀ cs K', S cs K' → T { nx := fun _ => K' (.im .none), rt := K' } (cs ++ List.replicate (N.length - cs.length) .un)) : FnOk P w K mg base CX0 (k + 1) f fd ps (spOf K dn S) := by
  obtain ⟨oc, od, dV, kV, doc, pm, an, cdv, ct, osl, rfl, lk, hcdI, _, _⟩ := F.ex
  have ec : cdv = .ref c := hcd
  subst ec
  refine fn_of lk hcdI Sc (fun vs H Q E ⟨F0, da, cs, fp, K', _, _, _, crs, _, _, hS, _⟩ => by rw [crs.length]; exact len cs K' hS) (fun A outer s H vs Q E hr ⟨F0, da, cs, fp, K', sm, dk, mf, crs, nd, hF, hS, k1⟩ => ?_)
  refine ⟨_, (PSs.nox (body A outer s H E ⟨exc H fp, F0, da, dn⟩ rfl hr)), ?_⟩
  have hl : cs.length = ps.length := len cs K' hS
  have dk' : DeckOk ⟨exc H fp, F0, da, dn⟩ H := dk
  have g0 : Go ⟨exc H fp, F0, da, dn⟩ F0 (exc H fp) F0 H := ⟨Same.refl _, fun a o _ e => by
    by_cases m : a ∈ fp
    · rw [exc_in m] at e; cases e
    · rwa [exc_out m] at e, fun a e _ => e, sm, dk'⟩
  have R : Rel K ⟨exc H fp, F0, da, dn⟩ (cs ++ List.replicate (N.length - cs.length) .un) F0 H (L2.start N vs) := by
    refine ⟨g0, fun a m => (mf a m).1, fun a m => ?_, fp, ?_, nd, fun a m => ⟨hF a m, exc_in m⟩⟩
    · show exc H fp a ≠ none
      rw [exc_out (mf a m).2]
      obtain ⟨o, e⟩ := dk.there a m
      rw [e]; exact fun z => by cases z
    · have := SlotsR.ofCRs (N.length - cs.length) crs
      unfold L2.start
      rw [crs.length]
      exact this
  exact ⟨_, F0, _, R, main cs K' hS, fun γ' F' σ' H' R' _ q => k1 .non F' H' (.im .none) ⟨R'.go, [], .im .non, List.nodup_nil, fun _ m => nomatch m⟩ q, fun _ _ _ _ _ _ z => z.elim, fun _ _ _ _ _ _ z => z.elim, fun v F' H' c fin q => k1 v F' H' c fin q⟩
end
end DL
set_option maxHeartbeats 1000000
namespace DL
open PySem PySem.Spec PyProof.Rows L2
def dkGet (k : Str) : TE := tDGet (tVar 0) (tC (.str k))
abbrev dAdd (a b : TE) : TE := tOp (rI0 fun i j => .int (i + j)) a b
abbrev dMul (a b : TE) : TE := tOp (rI CMul fun i j => .int (i * j)) a b
abbrev dMod (a b : TE) : TE := tOp (rI (fun _ j => 0 < j) fun i j => .int (i % j)) a b
abbrev dDiv (a b : TE) : TE := tOp (rI CDivW fun i j => .int (i / j)) a b
abbrev dI (i : Int) : TE := tC (.int i)
abbrev dInt (a : TE) : TE := tCB (fun xs H Q => (∃ i, xs = [.int i] ∧ Q (.int i) H) ∨ ∃ k, xs = [.bl k] ∧ Q (.int (if k then 1 else 0)) H) (tCons a tNil)
abbrev dMax (a b : TE) : TE := tCB (fun xs H Q => ∃ i j, xs = [.int i, .int j] ∧ Q (.int (if j > i then j else i)) H) (tCons a (tCons b tNil))
def t_draw (K : PySem.W.Frag) (k0 k1 k2 : Str) (c1 c2 c3 c4 c5 c6 c7 c8 c9 c10 : Int) : TS :=
  tSeq (sDPut (tVar 0) (tC (.str k2)) (dAdd (dkGet k2) (dI 1)))
  (tSeq (tAsg (dAdd (dkGet k1) (dMul (dI c1) (dkGet k2))) (gName 2))
  (tSeq (tIfS (tTest (tOp (rNeD K) (dkGet k0) (tLst tNil)))
    (tSeq (tAsg (tBM0 K "list" rPop (dkGet k0)) (gName 3))
    (tSeq (tIfS (tTest (tOp (rI0 fun i j => .bl (decide (j ≤ i))) (tVar 3) (tOp (rI CPow fun i j => .int (i ^ j.toNat)) (dI 10) (dI 18))))
      (tSeq (tDrop (tBM K "list" rAppend (dkGet k0) (tCons (dDiv (tVar 3) (dMax (dI 2) (tVar 1))) tNil)))
        (tRet (dMod (dInt (tVar 3)) (tVar 1)))) tNext)
      (tAsg (dAdd (tVar 2) (dMod (dInt (tVar 3)) (dI c2))) (gName 2)))) tNext)
  (tSeq (tAsg (dMod (dInt (dAdd (dMul (tVar 2) (dI c3)) (dI c4))) (dI c5)) (gName 2))
  (tSeq (tAsg (dMod (dInt (dAdd (dAdd (dMul (tVar 2) (tVar 2)) (dMul (dI c6) (dkGet k2))) (dI c7))) (dI c8)) (gName 2))
  (tSeq (tAsg (dMod (dInt (dMul (tVar 2) (dI c9))) (dI c10)) (gName 2))
    (tRet (dMod (dInt (dDiv (tVar 2) (dI 64))) (tVar 1))))))))
def S_draw : FS := fun cs K' => ∃ b : Int, cs = [.deck, .im (.int b)] ∧ 0 < b ∧ b.natAbs.log2 < 9000 ∧ ∀ r, 0 ≤ r → r < b → K' (.im (.int r))
theorem s_draw_len (cs : List Cell) (K' : Cell → Prop) (h : S_draw cs K') : cs.length = 2 := by
  obtain ⟨b, e, _⟩ := h
  subst e; rfl
/-- constants that are small -/
def drawB (c1 c2 c3 c5 c6 c8 c9 c10 : Int) : Prop := (0 < c1 ∧ c1 < 2 ^ 40) ∧ 0 < c2 ∧ (0 < c3 ∧ c3 < 2 ^ 40) ∧ (0 < c5 ∧ c5 < 2 ^ 40) ∧ (0 < c6 ∧ c6 < 2 ^ 40) ∧ 0 < c8 ∧ (0 < c9 ∧ c9 < 2 ^ 40) ∧ 0 < c10
theorem cmulR {i j : Int} (h : 0 < j ∧ j < 2 ^ 40) : CMul i j := .inr ⟨by omega, by omega⟩
theorem cmulL {i j : Int} (h : 0 < i ∧ i < 2 ^ 40) : CMul i j := .inl ⟨by omega, by omega⟩
theorem log_le {a b : Nat} (h : a ≤ b) : a.log2 ≤ b.log2 := by
  by_cases h0 : a = 0
  · subst h0; simp
  · exact (Nat.le_log2 (by omega)).mpr (Nat.le_trans (Nat.log2_self_le h0) h)
/-- the deck's dict, its list -/
structure DkH (k0 k1 k2 : Str) (H : Hp) (a c : Addr) (ns : List Int) (m t : Int) : Prop where
  d : H a = some (.dK [(.inr k0, .ref c), (.inr k1, .int m), (.inr k2, .int t)])
  l : H c = some (.lst (ns.map V.int))
section
variable {K : PySem.W.Frag} {k0 k1 k2 : Str} {H : Hp} {a c : Addr} {ns : List Int} {m t : Int} {σ : L2.St} {Q : VK}
theorem dk0 (h : DkH k0 k1 k2 H a c ns m t) (e : σ[0]? = some (some (.ref a))) (q : Q (.ref c) H) : dkGet k0 σ H Q :=
  ⟨_, e, a, _, rfl, .inl ⟨_, .inr k0, .inl h.d, rfl, by simp [valV]⟩, q⟩
theorem dk1 (n01 : k0 ≠ k1) (h : DkH k0 k1 k2 H a c ns m t) (e : σ[0]? = some (some (.ref a))) (q : Q (.int m) H) : dkGet k1 σ H Q :=
  ⟨_, e, a, _, rfl, .inl ⟨_, .inr k1, .inl h.d, rfl, by simp [valV, n01]⟩, q⟩
theorem dk2 (n02 : k0 ≠ k2) (n12 : k1 ≠ k2) (h : DkH k0 k1 k2 H a c ns m t) (e : σ[0]? = some (some (.ref a))) (q : Q (.int t) H) : dkGet k2 σ H Q :=
  ⟨_, e, a, _, rfl, .inl ⟨_, .inr k2, .inl h.d, rfl, by simp [valV, n02, n12]⟩, q⟩
end
theorem ints_dp {K : PySem.W.Frag} {H : Hp} : ∀ ns : List Int, DpAll K H (ns.map V.int) (ns.map PyData.int)
  | [] => .nil
  | n :: ns => .cons (.int n) (ints_dp ns)
theorem ints_shaped (ns : List Int) : SeqAt.shaped (.list (ns.map PyData.int)) = true := by
  have h1 : ∀ ns : List Int, PyData.canLayAll0 (ns.map PyData.int) = true := fun ns => by
    induction ns with
    | nil => rfl
    | cons n ns ih => simp [PyData.canLayAll0, PyData.canLay0, ih]
  have h2 : ∀ ns : List Int, PyData.depthAll (ns.map PyData.int) = 0 := fun ns => by
    induction ns with
    | nil => rfl
    | cons n ns ih => simp [PyData.depthAll, PyData.depth, ih]
  simp [SeqAt.shaped, PyData.canLay0, h1, PyData.depth, h2]
theorem draw_main {K : PySem.W.Frag} {k0 k1 k2 : Str} {c1 c2 c3 c4 c5 c6 c7 c8 c9 c10 : Int} (n01 : k0 ≠ k1) (n02 : k0 ≠ k2) (n12 : k1 ≠ k2) (hc : drawB c1 c2 c3 c5 c6 c8 c9 c10) (tb : List (Addr × Str)) (vs : List V) (H : Hp) (Q : VK)
    (h : spOf K ⟨(k0, k1, k2), tb⟩ S_draw vs H Q E0) : t_draw K k0 k1 k2 c1 c2 c3 c4 c5 c6 c7 c8 c9 c10 { nx := fun _ H' => Q .non H', rt := Q } (L2.start ["deck", "below", "figure", "cell"] vs) H := by
  obtain ⟨F0, da, cs, fp, K', sm, dk, mf, crs, nd, hF, ⟨b, e, hb, hb2, hK⟩, k1'⟩ := h
  subst e
  obtain ⟨hc1, hc2, hc3, hc5, hc6, hc8, hc9, hc10⟩ := hc
  obtain ⟨v, w, f1, f2, rfl, hv, hw⟩ := crs_two crs
  rw [hw.int]
  cases hv with
  | @deck a hda =>
    cases hd : da with
    | none => rw [hd] at hda; cases hda
    | some p =>
      obtain ⟨x, c⟩ := p
      rw [hd] at hda
      have hx : a = x := (Option.some.inj hda).symm
      subst hx
      subst hd
      have efp : fp = [] := by
        cases crs with
        | cons q1 q2 =>
          cases q1
          cases q2 with
          | cons q3 q4 => cases q3; cases q4; rfl
      subst efp
      obtain ⟨dt, ne, ns, m, t, h1, h2, h3⟩ := dk
      have h1 : H a = some (.dK [(.inr k0, .ref c), (.inr k1, .int m), (.inr k2, .int t)]) := h1
      have ma : a ∈ (Bs.mk H F0 (some (a, c)) ⟨(k0, k1, k2), tb⟩).ms := List.mem_append_right _ (by simp [Bs.deck])
      have mc : c ∈ (Bs.mk H F0 (some (a, c)) ⟨(k0, k1, k2), tb⟩).ms := List.mem_append_right _ (by simp [Bs.deck])
      have D0 : DkH k0 k1 k2 H a c ns m t := ⟨h1, h2⟩
      -- the end: what may have changed
      have fin : ∀ (H' : Hp) (ns' : List Int) (t' : Int) (r : Int), (∀ b o, b ≠ a → b ≠ c → H b = some o → H' b = some o) → DkH k0 k1 k2 H' a c ns' m t' → ns'.length ≤ 64 → 0 ≤ r → r < b → Q (.int r) H' := fun H' ns' t' r k D hl r0 r1 => by
        have hh : ∀ y o, y ∉ (Bs.mk H F0 (some (a, c)) ⟨(k0, k1, k2), tb⟩).ms → H y = some o → H' y = some o := fun y o my ey => k y o (fun z => my (z ▸ ma)) (fun z => my (z ▸ mc)) ey
        have nF : ∀ {y o}, F0 y = some o → y ≠ a ∧ y ≠ c := fun {y o} ey => by
          constructor
          · intro z
            have := (mf a ma).1
            rw [z, this] at ey; cases ey
          · intro z
            have := (mf c mc).1
            rw [z, this] at ey; cases ey
        refine k1' (.int r) F0 H' (.im (.int r)) ⟨⟨Same.refl _, fun y o my ey => hh y o my (by simpa [exc] using ey), fun _ ey _ => ey, fun y o ey => k y o (nF ey).1 (nF ey).2 (sm _ _ ey), ?_, ne, ns', m, t', D.d, D.l, hl⟩, [], .im (.int r), List.nodup_nil, fun _ z => nomatch z⟩ (hK r r0 r1)
        intro p hp
        obtain ⟨ps, g1, g2, g3⟩ := dt p hp
        have nt : ∀ {y ps}, H y = some (.tbl ps) → y ≠ a ∧ y ≠ c := fun {y ps} ey => ⟨ne_of ey h1 (fun z => by cases z), ne_of ey h2 (fun z => by cases z)⟩
        refine ⟨ps, k _ _ (nt g1).1 (nt g1).2 g1, g2, fun pos cv hcv => ?_⟩
        obtain ⟨cc, e1, e2⟩ := g3 pos cv hcv
        refine ⟨cc, e1, k _ _ (ne_of e2 h1 fun z => ?_) (ne_of e2 h2 fun z => ?_) e2⟩ <;> (unfold LamX.CodeO at z; cases z)
      -- deck[k2] += 1
      refine dk2 n02 n12 D0 rfl ⟨t, 1, rfl, rfl, ⟨.ref a, rfl, a, upd H a (.dK (putK [(.inr k0, .ref c), (.inr k1, .int m), (.inr k2, .int t)] (.inr k2) (.int (t + 1)))), rfl, .inl ⟨_, .inr k2, h1, rfl, ?_, rfl⟩, ?_⟩⟩
      · show 3 < sizeLine
        decide
      have ep : putK [((.inr k0 : Key), V.ref c), (.inr k1, .int m), (.inr k2, .int t)] (.inr k2) (.int (t + 1)) = [(.inr k0, .ref c), (.inr k1, .int m), (.inr k2, .int (t + 1))] := by
        simp [putK, n02, n12]
      rw [ep]
      generalize hH1 : upd H a (.dK [(.inr k0, .ref c), (.inr k1, .int m), (.inr k2, .int (t + 1))]) = H1
      have D1 : DkH k0 k1 k2 H1 a c ns m (t + 1) := by
        subst hH1
        exact ⟨upd_same, by rw [upd_ne (Ne.symm ne)]; exact h2⟩
      have K1 : ∀ b o, b ≠ a → b ≠ c → H b = some o → H1 b = some o := fun b o na _ e => by
        subst hH1
        rw [upd_ne na]; exact e
      -- figure
      refine dk1 n01 D1 rfl (dk2 n02 n12 D1 rfl ⟨c1, t + 1, rfl, rfl, cmulL hc1, m, c1 * (t + 1), rfl, rfl, ?_⟩)
      -- behind the look at the cells
      have rest : ∀ (H' : Hp) (ns' : List Int) (fig : Int) (o3 : Option V), (∀ b o, b ≠ a → b ≠ c → H b = some o → H' b = some o) → DkH k0 k1 k2 H' a c ns' m (t + 1) → ns'.length ≤ 64 →
          (tSeq (tAsg (dMod (dInt (dAdd (dMul (tVar 2) (dI c3)) (dI c4))) (dI c5)) (gName 2))
            (tSeq (tAsg (dMod (dInt (dAdd (dAdd (dMul (tVar 2) (tVar 2)) (dMul (dI c6) (dkGet k2))) (dI c7))) (dI c8)) (gName 2))
            (tSeq (tAsg (dMod (dInt (dMul (tVar 2) (dI c9))) (dI c10)) (gName 2))
              (tRet (dMod (dInt (dDiv (tVar 2) (dI 64))) (tVar 1)))))) { nx := fun _ H' => Q .non H', rt := Q } [some (.ref a), some (.int b), some (.int fig), o3] H' := fun H' ns' fig o3 k D hl => by
        refine ⟨.int fig, rfl, fig, c3, rfl, rfl, cmulR hc3, _, c4, rfl, rfl, .inl ⟨_, rfl, _, c5, rfl, rfl, hc5.1, ?_⟩⟩
        have b1 := Int.emod_nonneg (fig * c3 + c4) (show c5 ≠ 0 by omega)
        have b2 := Int.emod_lt_of_pos (fig * c3 + c4) hc5.1
        have b3 : CMul ((fig * c3 + c4) % c5) ((fig * c3 + c4) % c5) := .inl ⟨by omega, by omega⟩
        refine ⟨_, rfl, _, rfl, _, _, rfl, rfl, b3, ?_⟩
        refine dk2 n02 n12 D rfl ⟨c6, t + 1, rfl, rfl, cmulL hc6, _, _, rfl, rfl, _, c7, rfl, rfl, .inl ⟨_, rfl, _, c8, rfl, rfl, hc8, ?_⟩⟩
        refine ⟨_, rfl, _, c9, rfl, rfl, cmulR hc9, .inl ⟨_, rfl, _, c10, rfl, rfl, hc10, ?_⟩⟩
        refine ⟨_, rfl, _, 64, rfl, rfl, ⟨by decide, by decide⟩, .inl ⟨_, rfl, _, rfl, _, b, rfl, rfl, hb, ?_⟩⟩
        exact fin H' ns' (t + 1) _ k D hl (Int.emod_nonneg _ (by omega)) (Int.emod_lt_of_pos _ hb)
      refine dk0 D1 rfl ⟨Nat.zero_le _, fun p np => ?_⟩
      have pne : p ≠ a ∧ p ≠ c := ⟨fun z => (by rw [z, D1.d] at np; cases np), fun z => (by rw [z, D1.l] at np; cases np)⟩
      have D2 : DkH k0 k1 k2 (upd H1 p (.lst [])) a c ns m (t + 1) := ⟨by rw [upd_ne pne.1.symm]; exact D1.d, by rw [upd_ne pne.2.symm]; exact D1.l⟩
      have K2 : ∀ b o, b ≠ a → b ≠ c → H b = some o → upd H1 p (.lst []) b = some o := fun b o na nc e => by
        have := K1 b o na nc e
        rw [upd_ne (ne_of_none this np)]; exact this
      have P2 : upd H1 p (.lst []) p = some (.lst []) := upd_same
      generalize upd H1 p (.lst []) = H2 at D2 K2 P2
      refine ⟨.list (ns.map .int), .list [], .lst (.inl (.inl D2.l)) (ints_dp ns), ?_, ints_shaped ns, by decide, _, rfl, ?_⟩
      · exact Dp.lst (.inl (.inl P2)) .nil
      by_cases hns : ns = []
      · subst hns
        refine iteF ?_
        exact rest H2 [] _ none K2 D2 h3
      · have hne : (!PyData.eqv (.list (ns.map PyData.int)) (.list [])) = true := by
          cases ns with
          | nil => exact absurd rfl hns
          | cons n ns => simp [PyData.eqv, PyData.eqvAll]
        rw [hne]
        refine iteT ?_
        obtain ⟨ms, z, rfl⟩ : ∃ ms z, ns = ms ++ [z] := ⟨ns.dropLast, ns.getLast hns, (List.dropLast_concat_getLast hns).symm⟩
        have hlm : ms.length + 1 ≤ 64 := by simpa using h3
        have el : (ms ++ [z]).map V.int = ms.map V.int ++ [V.int z] := by simp
        refine dk0 D2 rfl ⟨.inl ⟨rfl, _, .inl (.inl D2.l)⟩, c, _, .int z, rfl, rfl, D2.l, by rw [el]; simp, ?_⟩
        have ed : ((ms ++ [z]).map V.int).dropLast = ms.map V.int := by rw [el]; simp
        rw [ed]
        have D3 : DkH k0 k1 k2 (upd H2 c (.lst (ms.map V.int))) a c ms m (t + 1) := ⟨by rw [upd_ne ne]; exact D2.d, upd_same⟩
        have K3 : ∀ b o, b ≠ a → b ≠ c → H b = some o → upd H2 c (.lst (ms.map V.int)) b = some o := fun b o na nc e => by
          rw [upd_ne nc]; exact K2 b o na nc e
        generalize upd H2 c (.lst (ms.map V.int)) = H3 at D3 K3
        refine ⟨.int z, rfl, 10, 18, rfl, rfl, ⟨by decide, by decide, by decide⟩, z, 10 ^ 18, rfl, rfl, _, rfl, ?_⟩
        by_cases hz : (10 : Int) ^ 18 ≤ z
        · rw [decide_eq_true hz]
          refine iteT ?_
          have hj : CDivW z (if b > 2 then b else 2) := by
            by_cases h2 : b > 2
            · rw [if_pos h2]; exact ⟨hb, hb2⟩
            · rw [if_neg h2]; exact ⟨by decide, by decide⟩
          refine dk0 D3 rfl ⟨.inl ⟨rfl, _, .inl (.inl D3.l)⟩, .int z, rfl, .int b, rfl, 2, b, rfl, z, _, rfl, rfl, hj, c, _, _, rfl, rfl, D3.l, ?_, ?_⟩
          · rw [List.length_map]
            exact Nat.lt_of_lt_of_le (show ms.length < 1000 by omega) (by decide)
          · refine ⟨.int z, rfl, .inl ⟨z, rfl, .int b, rfl, z, b, rfl, rfl, hb, fin _ (ms ++ [z / (if b > 2 then b else 2)]) (t + 1) _ (fun b o na nc e => by rw [upd_ne nc]; exact K3 b o na nc e) ⟨by rw [upd_ne ne]; exact D3.d, by rw [upd_same]; simp⟩ (by simpa using hlm) (Int.emod_nonneg _ (by omega)) (Int.emod_lt_of_pos _ hb)⟩⟩
        · rw [decide_eq_false hz]
          refine iteF ⟨_, rfl, .int z, rfl, .inl ⟨z, rfl, z, c2, rfl, rfl, hc2, _, _, rfl, rfl, ?_⟩⟩
          exact rest H3 ms _ (some (.int z)) K3 D3 (by omega)
end DL
set_option maxHeartbeats 1000000
namespace DL
open PySem PySem.Spec PyProof.Rows L2
section
variable {K : PySem.W.Frag} {da : Option Addr} {F H : Hp}
mutual
theorem CR.da0 : ∀ {v : V} {c : Cell} {fp : List Addr}, CR K none F H v c fp → CR K da F H v c fp
  | _, _, _, .un => .un
  | _, _, _, .im h => .im h
  | _, _, _, .ow h hs => .ow h (CRs.da0 hs)
  | _, _, _, .dk h l hs => .dk h l (CRs.da0 hs)
  | _, _, _, .dt h l hs => .dt h l (CRs.da0 hs)
  | _, _, _, .fk h l hs => .fk h l (CRs.da0 hs)
  | _, _, _, .ft h l hs => .ft h l (CRs.da0 hs)
  | _, _, _, .fn h1 h2 h3 => .fn h1 h2 h3
theorem CRs.da0 : ∀ {vs : List V} {cs : List Cell} {fp : List Addr}, CRs K none F H vs cs fp → CRs K da F H vs cs fp
  | _, _, _, .nil => .nil
  | _, _, _, .cons h hs => .cons (CR.da0 h) (CRs.da0 hs)
end
theorem SlotsR.da0 : ∀ {σ : List (Option V)} {γ : List Cell} {fp : List Addr}, SlotsR K none F H σ γ fp → SlotsR K da F H σ γ fp
  | _, _, _, .nil => .nil
  | _, _, _, .no hs => .no (SlotsR.da0 hs)
  | _, _, _, .so h hs => .so h.da0 (SlotsR.da0 hs)
end
@[simp] def sDeck (k : Str × Str × Str) (i : Nat) (T : XS) : XS := fun D γ => ∃ (ns : List Int) (m t : Int), γ[i]? = some (.dk [.inr k.1, .inr k.2.1, .inr k.2.2] [.ow ((ns.map PyData.int).map .im), .im (.int m), .im (.int t)]) ∧ ns.length ≤ 64 ∧
  T { nx := fun _ => False, rt := fun c => (∃ d, c = .im d) ∧ D.rt c } (γ.set i .deck)
theorem dss_deck {X : Cx} {B : Bs} {rest : List Stmt} {T : XS} {i : Nat} (hda : B.da = none) (h : ∀ B' : Bs, B'.dn = B.dn → DSs X B' rest T) : DSs X B rest (sDeck B.dn.k i T) := by
  refine ⟨fun pins s σ H Dd I ⟨γ, F, D', R, ⟨ns, m, t, e, hl, hT⟩, k1, k2, k3, k4⟩ => ?_⟩
  obtain ⟨fp, h1, h2, h3⟩ := R.sl
  have hdd : B.dd = none := by show B.da.map _ = none; rw [hda]; rfl
  rw [hdd] at h1
  have h1' := h1
  obtain ⟨v0, f0, e0, c0, _, _⟩ := h1.get e (by intro z; cases z)
  cases c0 with
  | @dk a _ vs _ fp1 t0 l0 al0 =>
    have h1d : SlotsR X.K (some a) F H σ γ fp := h1'.da0
    obtain ⟨v, f, q1, q2, q3, q4, q5⟩ := h1d.change h2 e (by intro z; cases z)
    rw [e0] at q1
    cases q1
    cases q2 with
    | @dk _ _ vs2 _ fp2 t1 l1 al1 =>
      obtain ⟨vc, vm, vt, rfl⟩ := len3 (show vs2.length = 3 from l1.symm)
      -- the dict's values
      cases al1 with
      | cons cl al1 => cases al1 with
        | cons cm al1 => cases al1 with
          | cons ct al1 =>
            cases al1
            have em := cm.int
            have et := ct.int
            subst em et
            cases cl with
            | @ow c xs _ fpl tl all =>
              obtain ⟨alD, efl⟩ := CRs.toDp all
              subst efl
              have exs := DpAll.ints alD
              subst exs
              cases cm
              cases ct
              have mem_a : a ∈ fp := q4 a List.mem_cons_self
              have mem_c : c ∈ fp := q4 c (by simp)
              have nac : a ≠ c := fun z => by
                have := (List.nodup_cons.mp q3).1
                exact this (by simp [z])
              obtain ⟨fp', s1, s2, s3⟩ := q5 F H .deck [] (Same.refl F) (fun _ _ _ => rfl) (.deck rfl) List.nodup_nil (fun _ m => nomatch m)
              have out : ∀ x ∈ fp', x ∈ fp ∧ x ≠ a ∧ x ≠ c := fun x hx => by
                rcases s3 x hx with z | ⟨z1, z2⟩
                · cases z
                · exact ⟨z1, fun y => z2 (by simp [y]), fun y => z2 (by simp [y])⟩
              let B' : Bs := ⟨exc H fp', F, some (a, c), B.dn⟩
              have tbm : ∀ x, x ∈ B.dn.tb.map (·.1) → x ∈ B.ms := fun x m => List.mem_append_left _ m
              have dk' : DeckOk B' H := ⟨R.dk.1, nac, ns, m, t, t1, tl, hl⟩
              have R' : Rel X.K B' (γ.set i .deck) F H σ := by
                refine ⟨⟨Same.refl F, fun x o _ ex => ?_, fun _ ex _ => ex, R.sub, dk'⟩, fun x mx => ?_, fun x mx => ?_, fp', s1, s2, fun x hx => ⟨(h3 x (out x hx).1).1, exc_in hx⟩⟩
                · by_cases hx : x ∈ fp'
                  · have : exc H fp' x = some o := ex
                    rw [exc_in hx] at this; cases this
                  · have : exc H fp' x = some o := ex
                    rwa [exc_out hx] at this
                · rcases List.mem_append.mp mx with mx | mx
                  · exact R.mf x (tbm x mx)
                  · have : x = a ∨ x = c := by simpa [Bs.deck, B'] using mx
                    rcases this with rfl | rfl
                    · exact (h3 _ mem_a).1
                    · exact (h3 _ mem_c).1
                · show exc H fp' x ≠ none
                  rcases List.mem_append.mp mx with mx | mx
                  · have g := R.mg x (tbm x mx)
                    rw [exc_out fun hx => g (h3 x (out x hx).1).2]
                    exact R.go.there g
                  · have : x = a ∨ x = c := by simpa [Bs.deck, B'] using mx
                    rcases this with rfl | rfl
                    · rw [exc_out fun hx => (out _ hx).2.1 rfl, t1]; exact fun z => by cases z
                    · rw [exc_out fun hx => (out _ hx).2.2 rfl, tl]; exact fun z => by cases z
              refine (h B' rfl).run pins s σ H Dd I ⟨γ.set i .deck, F, _, R', hT, fun _ _ _ _ _ _ z => z.elim, fun _ _ _ _ _ _ z => z.elim, fun _ _ _ _ _ _ z => z.elim, fun v F' H' cc ⟨go, fpr, cr, ndr, frr⟩ ⟨⟨d, ed⟩, q⟩ => ?_⟩
              subst ed
              cases cr with
              | im hd =>
                have nG : ∀ {x}, B.G x ≠ none → x ∉ fp' ∧ x ≠ a ∧ x ≠ c := fun {x} g => ⟨fun hx => g (h3 x (out x hx).1).2, fun z => g (by rw [z]; exact (h3 a mem_a).2), fun z => g (by rw [z]; exact (h3 c mem_c).2)⟩
                refine k4 v F' H' (.im d) ⟨⟨R.go.ff.trans go.ff, fun x o mx ex => ?_, fun x ex n => ?_, go.sub, go.dk.1, ?_⟩, [], .im hd, List.nodup_nil, fun _ m => nomatch m⟩ q
                · have n := nG (x := x) (by rw [ex]; exact fun z => by cases z)
                  refine go.hh x o (fun my => ?_) ?_
                  · rcases List.mem_append.mp my with my | my
                    · exact mx (List.mem_append_left _ my)
                    · have : x = a ∨ x = c := by simpa [Bs.deck, B'] using my
                      rcases this with z | z
                      · exact n.2.1 z
                      · exact n.2.2 z
                  · show exc H fp' x = some o
                    rw [exc_out n.1]
                    exact R.go.hh x o mx ex
                · refine go.nw x (R.go.nw x ex n) ?_
                  show exc H fp' x ≠ none
                  rw [exc_out (nG n).1]
                  exact R.go.there n
                · show DeckP B H'
                  unfold DeckP
                  rw [hda]
                  trivial
end DL
set_option maxHeartbeats 1000000
namespace DL
open PySem PySem.Spec PyProof.Rows L2
section
variable {X : Cx} {B : Bs} {e : Expr} {T : XE}
@[simp] def xFzE (T : XE) : XE := fun γ K => T γ fun c => K (frz c)
theorem de_fz (h : DE X B e T) : DE X B e (xFzE T) := pe_imp h fun σ H Q ⟨γ, F, Q', R, hT, k⟩ _ =>
  ⟨γ, F, _, R, hT, fun v F' H' c fp g sz cr nd fr q sz' => k v (addF F' H' fp) H' (frz c) [] (g.addF fr) sz' (CR.fz g.sub cr) List.nodup_nil (fun _ m => nomatch m) q⟩
end
end DL
set_option maxHeartbeats 1000000
namespace DL
open PySem PySem.Spec PyProof.Rows L2
/-- .. with no deck at the entry -/
def spOf0 (K : PySem.W.Frag) (dn : Dn) (S : FS) : Sp := fun vs H Q _ => ∃ F cs K', Same F H ∧ DeckOk ⟨H, F, none, dn⟩ H ∧ (∀ a ∈ (Bs.mk H F none dn).ms, F a = none) ∧
  CRs K none F H vs cs [] ∧ S cs K' ∧ ∀ v F' H' c, Fin K ⟨exc H [], F, none, dn⟩ F' H' v c → K' c → Q v H'
section
variable {P : Program} {w : World} {K : PySem.W.Frag} {mg : Str → Option Value} {base : Heap}
theorem fn_ok0 {x : Str} {st : Stmt} {f : Addr} {fd : FuncData} {N ps : List Str} {k : Nat} {dn : Dn} {S : FS} {T : XS} (F : FnP K x st f fd) (Sc : FnScope N ps (defScope st)) (len : ∀ cs K', S cs K' → cs.length = ps.length)
    (body : ∀ (cdv : Value) (A : Around) (outer : List Env) (s : Shared) (H : Hp) (E : XK) (B : Bs), B.dn = dn → B.da = none → Room k (A.deeper (envOfC x (defScope st) s.heap.objs.size f cdv)) → DSs (cxOf CX0 P w K mg base N x (defScope st) f cdv A outer s H E).nox B (defBody st) T)
    (main : ∀ cs K', S cs K' → T { nx := fun _ => K' (.im .none), rt := K' } (cs ++ List.replicate (N.length - cs.length) .un)) : FnOk P w K mg base CX0 (k + 1) f fd ps (spOf0 K dn S) := by
  refine F.ok Sc (fun vs H Q E ⟨F0, cs, K', _, _, _, crs, hS, _⟩ => by rw [crs.length]; exact len cs K' hS) (fun cdv A outer s H vs Q E hr ⟨F0, cs, K', sm, dk, mf, crs, hS, k1⟩ => ?_)
  refine ⟨_, (PSs.nox (body cdv A outer s H E ⟨exc H [], F0, none, dn⟩ rfl rfl hr)), ?_⟩
  have hl : cs.length = ps.length := len cs K' hS
  have dk' : DeckOk ⟨exc H [], F0, none, dn⟩ H := dk
  have g0 : Go ⟨exc H [], F0, none, dn⟩ F0 (exc H []) F0 H := ⟨Same.refl _, fun a o _ e => by
    rwa [exc_out (by simp)] at e, fun a e _ => e, sm, dk'⟩
  have R : Rel K ⟨exc H [], F0, none, dn⟩ (cs ++ List.replicate (N.length - cs.length) .un) F0 H (L2.start N vs) := by
    refine ⟨g0, fun a m => mf a m, fun a m => ?_, [], ?_, List.nodup_nil, fun a m => nomatch m⟩
    · show exc H [] a ≠ none
      rw [exc_out (by simp)]
      obtain ⟨o, e⟩ := dk.there a m
      rw [e]; exact fun z => by cases z
    · have := SlotsR.ofCRs (N.length - cs.length) crs
      unfold L2.start
      rw [crs.length]
      exact this
  exact ⟨_, F0, _, R, main cs K' hS, fun γ' F' σ' H' R' _ q => k1 .non F' H' (.im .none) ⟨R'.go, [], .im .non, List.nodup_nil, fun _ m => nomatch m⟩ q, fun _ _ _ _ _ _ z => z.elim, fun _ _ _ _ _ _ z => z.elim, fun v F' H' c fin q => k1 v F' H' c fin q⟩
/-- a def that is never called -/
theorem fn_no {x : Str} {st : Stmt} {f : Addr} {fd : FuncData} {N ps : List Str} {dn : Dn} (F : FnP K x st f fd) (Sc : FnScope N ps (defScope st)) : FnOk P w K mg base CX0 1 f fd ps (spOf K dn fun _ _ => False) :=
  F.ok (k := 0) Sc (fun vs H Q E ⟨_, _, _, _, _, _, _, _, _, _, _, hS, _⟩ => hS.elim) (fun cdv A outer s H vs Q E hr ⟨_, _, _, _, _, _, _, _, _, _, _, hS, _⟩ => hS.elim)
theorem Cal.mono {j k : Nat} {dn : Dn} {x : Str} {st : Stmt} {ps : List Str} {S : FS} (c : Cal P w K mg base dn j x st ps S) (h : j ≤ k) : Cal P w K mg base dn k x st ps S := by
  obtain ⟨f, fd, h1, h2, h3, h4⟩ := c
  exact ⟨f, fd, h1, h2, h3, h4.mono h⟩
end
def exT (tps : List (Str × List He.Dv)) (K : PySem.W.Frag) : Bool := tps.all fun t => He.tupB K t.1 t.2
theorem exT_tup {K : PySem.W.Frag} {tps : List (Str × List He.Dv)} (c : exT tps K = true) (i : Nat) {t : Str × List He.Dv} (h : tps[i]? = some t := by rfl) (H : Hp) : SqT K H (He.ga K t.1) (t.2.map (He.Dv.v K)) :=
  He.tupB_ok (List.all_eq_true.mp c t (List.mem_of_getElem? h)) H
theorem fdCode {K : PySem.W.Frag} {x : Str} {st : Stmt} {fd : FuncData} (F : FnP K x st (He.fAd K (x, none)) fd) : fd.code = .ref (He.cT K (x, none)).1 := by
  obtain ⟨oc, od, dV, kV, doc, pm, an, cdv, ct, osl, rfl, lk, hcd, _, _⟩ := F.ex
  obtain ⟨c, e⟩ := He.codeIn_ref hcd
  subst e
  show Value.ref c = .ref (He.codeOf K (x, none))
  rw [He.codeOf_eq lk rfl]
/-- the law's arguments at the end: a list of whole numbers, the tables -/
theorem law_sp {K : PySem.W.Frag} {k : Str × Str × Str} {S : FS} {ts : List (Addr × Str)} {H : Hp} {a : Addr} {ns : List Int} (hT : ∀ p ∈ ts, H p.1 = some (.tbl #[])) (hS : SqL K H a (ns.map V.int)) {Q : VK} {E : XK}
    (h : S [.im (.list (ns.map .int))] fun c => c = .im (.bool true)) (hQ : ∀ H', Q (.bl true) H') : spOf0 K ⟨k, ts⟩ S [.ref a] H Q E := by
  have hTb : LamX.Tabs ts H := fun p hp => ⟨#[], hT p hp, trivial, fun pos cv z => by simp [codeAmong] at z⟩
  have nin : ∀ b, b ∈ ts.map (·.1) → H b = some (.tbl #[]) := fun b hb => by
    obtain ⟨p, hp, e⟩ := List.mem_map.mp hb
    rw [← e]; exact hT p hp
  let F : Hp := fun b => open Classical in if b ∈ ts.map (·.1) then none else H b
  have hF : ∀ b, b ∈ ts.map (·.1) → F b = none := fun b hb => if_pos hb
  have hF2 : ∀ b, b ∉ ts.map (·.1) → F b = H b := fun b hb => if_neg hb
  have sm : Same F H := fun b o e => by
    by_cases hb : b ∈ ts.map (·.1)
    · rw [hF b hb] at e; cases e
    · rwa [hF2 b hb] at e
  have sq : SqL K F a (ns.map V.int) := by
    have na : ∀ o, H a = some o → (∀ t, o ≠ .tbl t) → F a = some o := fun o e n => by
      rw [hF2 a fun hb => by have := nin a hb; rw [e] at this; cases this; exact n _ rfl]; exact e
    rcases hS with (h | ⟨o, h⟩) | h
    · exact .inl (.inl (na _ h fun t z => by cases z))
    · exact .inl (.inr ⟨o, na _ h fun t z => by cases z⟩)
    · exact .inr h
  refine ⟨F, [.im (.list (ns.map .int))], _, sm, ⟨hTb, trivial⟩, fun b hb => ?_, ?_, h, fun v F' H' c fin e => ?_⟩
  · have : b ∈ ts.map (·.1) := by simpa [Bs.ms, Bs.deck] using hb
    exact hF b this
  · exact CRs.one (.im (.lst sq (ints_dp ns)))
  · subst e
    obtain ⟨_, fp, cr, _, _⟩ := fin
    cases cr with
    | im d => cases d; exact hQ H'
end DL
set_option maxHeartbeats 1000000
namespace DL
open PySem PySem.Spec PyProof.Rows L2
theorem LamP.mono {P : Program} {w : World} {K : PySem.W.Frag} {mg : Str → Option Value} {base : Heap} {dn : Dn} {j k : Nat} {L : LamI} {S : List D → FS} (c : LamP P w K mg base dn j L S) (h : j ≤ k) : LamP P w K mg base dn k L S :=
  fun A outer s H f us vs Q hr => c A outer s H f us vs Q (hr.mono h)
end DL
set_option maxHeartbeats 0
namespace L89
open PySem PySem.Spec PyProof.Rows L2 DL
def top (i : Nat) : Stmt := PySem.Challenge.pw_pourasked_k89_whole_echoes_by_all_trials.main.body.getD i (.Pass ⟨0, 0, 0, 0⟩)
abbrev s_is_integer : Stmt := top 7
def d_is_integer : He.DefD := ⟨("is_integer", none), "is_integer", "is_integer", defArgs s_is_integer, defBody s_is_integer, defScope s_is_integer, [], []⟩
abbrev s_is_between : Stmt := top 8
def d_is_between : He.DefD := ⟨("is_between", none), "is_between", "is_between", defArgs s_is_between, defBody s_is_between, defScope s_is_between, [], []⟩
abbrev s_is_pair_of : Stmt := top 9
def d_is_pair_of : He.DefD := ⟨("is_pair_of", none), "is_pair_of", "is_pair_of", defArgs s_is_pair_of, defBody s_is_pair_of, defScope s_is_pair_of, [], []⟩
abbrev s_is_book_value : Stmt := top 10
def d_is_book_value : He.DefD := ⟨("is_book_value", none), "is_book_value", "is_book_value", defArgs s_is_book_value, defBody s_is_book_value, defScope s_is_book_value, [], []⟩
abbrev s_need_book : Stmt := top 11
def d_need_book : He.DefD := ⟨("need_book", none), "need_book", "need_book", defArgs s_need_book, defBody s_need_book, defScope s_need_book, [], []⟩
abbrev s_lows : Stmt := top 12
def d_lows : He.DefD := ⟨("lows", none), "lows", "lows", defArgs s_lows, defBody s_lows, defScope s_lows, [], []⟩
abbrev s_highs : Stmt := top 13
def d_highs : He.DefD := ⟨("highs", none), "highs", "highs", defArgs s_highs, defBody s_highs, defScope s_highs, [], []⟩
abbrev s_hill_of_lows : Stmt := top 14
def d_hill_of_lows : He.DefD := ⟨("hill_of_lows", none), "hill_of_lows", "hill_of_lows", defArgs s_hill_of_lows, defBody s_hill_of_lows, defScope s_hill_of_lows, [], []⟩
abbrev s_closing_of : Stmt := top 15
def d_closing_of : He.DefD := ⟨("closing_of", none), "closing_of", "closing_of", defArgs s_closing_of, defBody s_closing_of, defScope s_closing_of, [], []⟩
abbrev s_mask_of : Stmt := top 16
def d_mask_of : He.DefD := ⟨("mask_of", none), "mask_of", "mask_of", defArgs s_mask_of, defBody s_mask_of, defScope s_mask_of, [], []⟩
abbrev s_lot_of : Stmt := top 17
def d_lot_of : He.DefD := ⟨("lot_of", none), "lot_of", "lot_of", defArgs s_lot_of, defBody s_lot_of, defScope s_lot_of, [], []⟩
abbrev s_is_lot_value : Stmt := top 18
def d_is_lot_value : He.DefD := ⟨("is_lot_value", none), "is_lot_value", "is_lot_value", defArgs s_is_lot_value, defBody s_is_lot_value, defScope s_is_lot_value, [], []⟩
abbrev s_closed_mask : Stmt := top 19
def d_closed_mask : He.DefD := ⟨("closed_mask", none), "closed_mask", "closed_mask", defArgs s_closed_mask, defBody s_closed_mask, defScope s_closed_mask, [], []⟩
abbrev s_lower_mask : Stmt := top 20
def d_lower_mask : He.DefD := ⟨("lower_mask", none), "lower_mask", "lower_mask", defArgs s_lower_mask, defBody s_lower_mask, defScope s_lower_mask, [], []⟩
abbrev s_upper_mask : Stmt := top 21
def d_upper_mask : He.DefD := ⟨("upper_mask", none), "upper_mask", "upper_mask", defArgs s_upper_mask, defBody s_upper_mask, defScope s_upper_mask, [], []⟩
abbrev s_is_lower_value : Stmt := top 22
def d_is_lower_value : He.DefD := ⟨("is_lower_value", none), "is_lower_value", "is_lower_value", defArgs s_is_lower_value, defBody s_is_lower_value, defScope s_is_lower_value, [], []⟩
abbrev s_is_upper_value : Stmt := top 23
def d_is_upper_value : He.DefD := ⟨("is_upper_value", none), "is_upper_value", "is_upper_value", defArgs s_is_upper_value, defBody s_is_upper_value, defScope s_is_upper_value, [], []⟩
abbrev s_is_kind_value : Stmt := top 25
def d_is_kind_value : He.DefD := ⟨("is_kind_value", none), "is_kind_value", "is_kind_value", defArgs s_is_kind_value, defBody s_is_kind_value, defScope s_is_kind_value, [], []⟩
abbrev s_standing_of : Stmt := top 26
def d_standing_of : He.DefD := ⟨("standing_of", none), "standing_of", "standing_of", defArgs s_standing_of, defBody s_standing_of, defScope s_standing_of, [], []⟩
abbrev s_is_deed_value : Stmt := top 29
def d_is_deed_value : He.DefD := ⟨("is_deed_value", none), "is_deed_value", "is_deed_value", defArgs s_is_deed_value, defBody s_is_deed_value, defScope s_is_deed_value, [], []⟩
abbrev s_is_script_value : Stmt := top 30
def d_is_script_value : He.DefD := ⟨("is_script_value", none), "is_script_value", "is_script_value", defArgs s_is_script_value, defBody s_is_script_value, defScope s_is_script_value, [], []⟩
abbrev s_need_script : Stmt := top 31
def d_need_script : He.DefD := ⟨("need_script", none), "need_script", "need_script", defArgs s_need_script, defBody s_need_script, defScope s_need_script, [], []⟩
abbrev s_left_by : Stmt := top 37
def d_left_by : He.DefD := ⟨("left_by", none), "left_by", "left_by", defArgs s_left_by, defBody s_left_by, defScope s_left_by, [], []⟩
abbrev s_does_reach : Stmt := top 38
def d_does_reach : He.DefD := ⟨("does_reach", none), "does_reach", "does_reach", defArgs s_does_reach, defBody s_does_reach, defScope s_does_reach, [], []⟩
abbrev s_are_allowed : Stmt := top 39
def d_are_allowed : He.DefD := ⟨("are_allowed", none), "are_allowed", "are_allowed", defArgs s_are_allowed, defBody s_are_allowed, defScope s_are_allowed, [], []⟩
abbrev s_is_ask : Stmt := top 40
def d_is_ask : He.DefD := ⟨("is_ask", none), "is_ask", "is_ask", defArgs s_is_ask, defBody s_is_ask, defScope s_is_ask, [], []⟩
abbrev s_are_asks_value : Stmt := top 41
def d_are_asks_value : He.DefD := ⟨("are_asks_value", none), "are_asks_value", "are_asks_value", defArgs s_are_asks_value, defBody s_are_asks_value, defScope s_are_asks_value, [], []⟩
abbrev s_are_met : Stmt := top 42
def d_are_met : He.DefD := ⟨("are_met", none), "are_met", "are_met", defArgs s_are_met, defBody s_are_met, defScope s_are_met, [], []⟩
abbrev s_need_asks : Stmt := top 44
def d_need_asks : He.DefD := ⟨("need_asks", none), "need_asks", "need_asks", defArgs s_need_asks, defBody s_need_asks, defScope s_need_asks, [], []⟩
abbrev s_does_meet : Stmt := top 45
def d_does_meet : He.DefD := ⟨("does_meet", none), "does_meet", "does_meet", defArgs s_does_meet, defBody s_does_meet, defScope s_does_meet, [], []⟩
abbrev s_meets_asks : Stmt := top 46
def d_meets_asks : He.DefD := ⟨("meets_asks", none), "meets_asks", "meets_asks", defArgs s_meets_asks, defBody s_meets_asks, defScope s_meets_asks, [], []⟩
abbrev s_reaching : Stmt := top 48
def d_reaching : He.DefD := ⟨("reaching", none), "reaching", "reaching", defArgs s_reaching, defBody s_reaching, defScope s_reaching, [], []⟩
abbrev s_again : Stmt := top 49
def d_again : He.DefD := ⟨("again", none), "again", "again", defArgs s_again, defBody s_again, defScope s_again, [], []⟩
abbrev s_first_echo : Stmt := top 50
def d_first_echo : He.DefD := ⟨("first_echo", none), "first_echo", "first_echo", defArgs s_first_echo, defBody s_first_echo, defScope s_first_echo, [], []⟩
abbrev s_need_question : Stmt := top 54
def d_need_question : He.DefD := ⟨("need_question", none), "need_question", "need_question", defArgs s_need_question, defBody s_need_question, defScope s_need_question, [], []⟩
abbrev s_judge_echo : Stmt := top 55
def d_judge_echo : He.DefD := ⟨("judge_echo", none), "judge_echo", "judge_echo", defArgs s_judge_echo, defBody s_judge_echo, defScope s_judge_echo, [], []⟩
abbrev s_is_echo : Stmt := top 56
def d_is_echo : He.DefD := ⟨("is_echo", none), "is_echo", "is_echo", defArgs s_is_echo, defBody s_is_echo, defScope s_is_echo, [], []⟩
abbrev s_echo_holds : Stmt := top 57
def d_echo_holds : He.DefD := ⟨("echo_holds", none), "echo_holds", "echo_holds", defArgs s_echo_holds, defBody s_echo_holds, defScope s_echo_holds, [], []⟩
abbrev s__law_deck : Stmt := top 59
def d__law_deck : He.DefD := ⟨("_law_deck", none), "_law_deck", "_law_deck", defArgs s__law_deck, defBody s__law_deck, defScope s__law_deck, [], []⟩
abbrev s__law_draw : Stmt := top 60
def d__law_draw : He.DefD := ⟨("_law_draw", none), "_law_draw", "_law_draw", defArgs s__law_draw, defBody s__law_draw, defScope s__law_draw, [], []⟩
abbrev s__law_pick : Stmt := top 61
def d__law_pick : He.DefD := ⟨("_law_pick", none), "_law_pick", "_law_pick", defArgs s__law_pick, defBody s__law_pick, defScope s__law_pick, [], []⟩
abbrev s__law_same : Stmt := top 62
def d__law_same : He.DefD := ⟨("_law_same", none), "_law_same", "_law_same", defArgs s__law_same, defBody s__law_same, defScope s__law_same, [], []⟩
abbrev s__law_book : Stmt := top 63
def d__law_book : He.DefD := ⟨("_law_book", none), "_law_book", "_law_book", defArgs s__law_book, defBody s__law_book, defScope s__law_book, [], []⟩
abbrev s__law_world : Stmt := top 64
def d__law_world : He.DefD := ⟨("_law_world", none), "_law_world", "_law_world", defArgs s__law_world, defBody s__law_world, defScope s__law_world, [], []⟩
abbrev s__law_behind : Stmt := top 65
def d__law_behind : He.DefD := ⟨("_law_behind", none), "_law_behind", "_law_behind", defArgs s__law_behind, defBody s__law_behind, defScope s__law_behind, [], []⟩
abbrev s__law_state : Stmt := top 66
def d__law_state : He.DefD := ⟨("_law_state", none), "_law_state", "_law_state", defArgs s__law_state, defBody s__law_state, defScope s__law_state, [], []⟩
abbrev s__law_bad : Stmt := top 67
def d__law_bad : He.DefD := ⟨("_law_bad", none), "_law_bad", "_law_bad", defArgs s__law_bad, defBody s__law_bad, defScope s__law_bad, [], []⟩
abbrev s__law_meets : Stmt := top 68
def d__law_meets : He.DefD := ⟨("_law_meets", none), "_law_meets", "_law_meets", defArgs s__law_meets, defBody s__law_meets, defScope s__law_meets, [], []⟩
abbrev s__law_script : Stmt := top 69
def d__law_script : He.DefD := ⟨("_law_script", none), "_law_script", "_law_script", defArgs s__law_script, defBody s__law_script, defScope s__law_script, [], []⟩
abbrev s__law_deeds : Stmt := top 70
def d__law_deeds : He.DefD := ⟨("_law_deeds", none), "_law_deeds", "_law_deeds", defArgs s__law_deeds, defBody s__law_deeds, defScope s__law_deeds, [], []⟩
abbrev s__law_is_integer : Stmt := top 71
def d__law_is_integer : He.DefD := ⟨("_law_is_integer", none), "_law_is_integer", "_law_is_integer", defArgs s__law_is_integer, defBody s__law_is_integer, defScope s__law_is_integer, [], []⟩
abbrev s__law_met_asks : Stmt := top 72
def d__law_met_asks : He.DefD := ⟨("_law_met_asks", none), "_law_met_asks", "_law_met_asks", defArgs s__law_met_asks, defBody s__law_met_asks, defScope s__law_met_asks, [], []⟩
abbrev s__law_echoed : Stmt := top 73
def d__law_echoed : He.DefD := ⟨("_law_echoed", none), "_law_echoed", "_law_echoed", defArgs s__law_echoed, defBody s__law_echoed, defScope s__law_echoed, [], []⟩
abbrev s__law_again : Stmt := top 74
def d__law_again : He.DefD := ⟨("_law_again", none), "_law_again", "_law_again", defArgs s__law_again, defBody s__law_again, defScope s__law_again, [], []⟩
abbrev s__law_breaking : Stmt := top 75
def d__law_breaking : He.DefD := ⟨("_law_breaking", none), "_law_breaking", "_law_breaking", defArgs s__law_breaking, defBody s__law_breaking, defScope s__law_breaking, [], []⟩
abbrev s__law_is_harmless : Stmt := top 76
def d__law_is_harmless : He.DefD := ⟨("_law_is_harmless", none), "_law_is_harmless", "_law_is_harmless", defArgs s__law_is_harmless, defBody s__law_is_harmless, defScope s__law_is_harmless, [], []⟩
abbrev s__law_calm : Stmt := top 77
def d__law_calm : He.DefD := ⟨("_law_calm", none), "_law_calm", "_law_calm", defArgs s__law_calm, defBody s__law_calm, defScope s__law_calm, [], []⟩
abbrev s__law_is_right : Stmt := top 78
def d__law_is_right : He.DefD := ⟨("_law_is_right", none), "_law_is_right", "_law_is_right", defArgs s__law_is_right, defBody s__law_is_right, defScope s__law_is_right, [], []⟩
abbrev s__law_holds : Stmt := top 79
def d__law_holds : He.DefD := ⟨("_law_holds", none), "_law_holds", "_law_holds", defArgs s__law_holds, defBody s__law_holds, defScope s__law_holds, [], []⟩
abbrev s__law_things : Stmt := top 80
def d__law_things : He.DefD := ⟨("_law_things", none), "_law_things", "_law_things", defArgs s__law_things, defBody s__law_things, defScope s__law_things, [], []⟩
abbrev s_law : Stmt := top 81
def d_law : He.DefD := ⟨("law", none), "law", "law", defArgs s_law, defBody s_law, defScope s_law, [], []⟩
def fn_0 : List He.DefD := [d_is_integer, d_is_between, d_is_pair_of, d_is_book_value, d_need_book, d_lows, d_highs, d_hill_of_lows, d_closing_of, d_mask_of, d_lot_of, d_is_lot_value, d_closed_mask, d_lower_mask, d_upper_mask, d_is_lower_value, d_is_upper_value, d_is_kind_value, d_standing_of, d_is_deed_value, d_is_script_value, d_need_script, d_left_by, d_does_reach, d_are_allowed, d_is_ask, d_are_asks_value, d_are_met, d_need_asks, d_does_meet, d_meets_asks, d_reaching, d_again, d_first_echo, d_need_question]
def fn_1 : List He.DefD := [d_judge_echo, d_is_echo, d_echo_holds, d__law_deck, d__law_draw, d__law_pick, d__law_same, d__law_book, d__law_world, d__law_behind, d__law_state, d__law_bad, d__law_meets, d__law_script, d__law_deeds, d__law_is_integer, d__law_met_asks, d__law_echoed, d__law_again, d__law_breaking, d__law_is_harmless, d__law_calm, d__law_is_right, d__law_holds, d__law_things, d_law]
def fn : List He.DefD := fn_0 ++ fn_1
def fa_0 : List He.Fa := [.glo "is_integer", .glo "is_between", .glo "is_pair_of", .glo "is_book_value", .glo "need_book", .glo "lows", .glo "highs", .glo "hill_of_lows", .glo "closing_of", .glo "mask_of", .glo "lot_of", .glo "is_lot_value", .glo "closed_mask", .glo "lower_mask", .glo "upper_mask", .glo "is_lower_value", .glo "is_upper_value", .glo "is_kind_value", .glo "standing_of", .glo "is_deed_value", .glo "is_script_value", .glo "need_script", .glo "left_by", .glo "does_reach", .glo "are_allowed", .glo "is_ask", .glo "are_asks_value", .glo "are_met", .glo "need_asks", .glo "does_meet", .glo "meets_asks", .glo "reaching", .glo "again", .glo "first_echo", .glo "need_question"]
def fa_1 : List He.Fa := [.glo "judge_echo", .glo "is_echo", .glo "echo_holds", .glo "_law_deck", .glo "_law_draw", .glo "_law_pick", .glo "_law_same", .glo "_law_book", .glo "_law_world", .glo "_law_behind", .glo "_law_state", .glo "_law_bad", .glo "_law_meets", .glo "_law_script", .glo "_law_deeds", .glo "_law_is_integer", .glo "_law_met_asks", .glo "_law_echoed", .glo "_law_again", .glo "_law_breaking", .glo "_law_is_harmless", .glo "_law_calm", .glo "_law_is_right", .glo "_law_holds", .glo "_law_things", .glo "law", .free "Exception", .free "all", .free "bool", .free "enumerate", .free "int", .free "isinstance", .free "len", .free "list", .free "max"]
def fa_2 : List He.Fa := [.free "min", .free "range", .free "sorted", .free "str", .free "sum", .free "super", .free "tuple", .free "zip", .int "MOST_TERRACES" 10, .glo "WORDS", .str "DRY" "dry", .str "KEPT" "kept", .str "WET" "wet", .glo "STANDINGS", .str "FIRM" "firm", .str "ECHO" "echo"]
def fa : List He.Fa := fa_0 ++ fa_1 ++ fa_2
def tps : List (Str × List He.Dv) := [("WORDS", [.str "pour", .str "open"]), ("STANDINGS", [.str "dry", .str "kept", .str "wet"])]
def tf : List He.Defn := [("does_meet", none)]
def lse_0 : List Str := [("HillError" : Str), ("BadBook" : Str), ("BadScript" : Str), ("BadAsks" : Str), ("MOST_TERRACES" : Str), ("is_integer" : Str), ("is_between" : Str), ("is_pair_of" : Str), ("is_book_value" : Str), ("need_book" : Str), ("lows" : Str), ("highs" : Str), ("hill_of_lows" : Str), ("closing_of" : Str), ("mask_of" : Str), ("lot_of" : Str), ("is_lot_value" : Str), ("closed_mask" : Str), ("lower_mask" : Str), ("upper_mask" : Str), ("is_lower_value" : Str), ("is_upper_value" : Str), ("is_kind_value" : Str), ("standing_of" : Str), ("WORDS" : Str), ("is_deed_value" : Str), ("is_script_value" : Str), ("need_script" : Str), ("DRY" : Str), ("KEPT" : Str), ("WET" : Str), ("STANDINGS" : Str), ("left_by" : Str), ("does_reach" : Str), ("are_allowed" : Str)]
def lse_1 : List Str := [("is_ask" : Str), ("are_asks_value" : Str), ("are_met" : Str), ("need_asks" : Str), ("does_meet" : Str), ("meets_asks" : Str), ("reaching" : Str), ("again" : Str), ("first_echo" : Str), ("FIRM" : Str), ("ECHO" : Str), ("need_question" : Str), ("judge_echo" : Str), ("is_echo" : Str), ("echo_holds" : Str), ("_law_deck" : Str), ("_law_draw" : Str), ("_law_pick" : Str), ("_law_same" : Str), ("_law_book" : Str), ("_law_world" : Str), ("_law_behind" : Str), ("_law_state" : Str), ("_law_bad" : Str), ("_law_meets" : Str), ("_law_script" : Str), ("_law_deeds" : Str), ("_law_is_integer" : Str), ("_law_met_asks" : Str), ("_law_echoed" : Str), ("_law_again" : Str), ("_law_breaking" : Str), ("_law_is_harmless" : Str), ("_law_calm" : Str), ("_law_is_right" : Str)]
def lse_2 : List Str := [("_law_holds" : Str), ("_law_things" : Str)]
def lse : List Str := lse_0 ++ lse_1 ++ lse_2
abbrev R : PySem.W.OpenRow := PySem.W.OpenLaw.row PySem.Challenge.rw_pourasked_k89_whole_echoes_by_all_trials
abbrev hk : PySem.W.Hook := He.hookX 4 fa fn [] tf (exT tps)
def ob (s : PySem.W.SharedT) : He.AlX := He.obsX 4 fa fn [] tf (exT tps) (HandSHeadRun.getT s)
theorem ob_eq (s : PySem.W.SharedT) : ob s = hk.obs s.abs := He.obsX_eq (HandSHeadRun.getT_eq s)
theorem run (w : World) : HandSHeadRun.RunEq R (PySem.W.view R.prog [81]) hk ob 4000 lse w := by
  intro os
  kernel_rfl
end L89
set_option maxHeartbeats 2000000
namespace L89
open PySem PySem.Spec PyProof.Rows L2 DL
structure Gs (K : PySem.W.Frag) (mg : Str → Option Value) : Prop where
  f_Exception : mg "Exception" = none
  f_all : mg "all" = none
  f_bool : mg "bool" = none
  f_enumerate : mg "enumerate" = none
  f_int : mg "int" = none
  f_isinstance : mg "isinstance" = none
  f_len : mg "len" = none
  f_list : mg "list" = none
  f_max : mg "max" = none
  f_min : mg "min" = none
  f_range : mg "range" = none
  f_sorted : mg "sorted" = none
  f_str : mg "str" = none
  f_sum : mg "sum" = none
  f_super : mg "super" = none
  f_tuple : mg "tuple" = none
  f_zip : mg "zip" = none
  c_MOST_TERRACES : ∃ t, mg "MOST_TERRACES" = some (.int 10 t)
  c_WORDS : ∃ a, mg "WORDS" = some (.ref a) ∧ ∀ H, SqT K H a ([("pour" : Str), ("open" : Str)].map V.str)
  c_DRY : ∃ t, mg "DRY" = some (.str "dry" t)
  c_KEPT : ∃ t, mg "KEPT" = some (.str "kept" t)
  c_WET : ∃ t, mg "WET" = some (.str "wet" t)
  c_STANDINGS : ∃ a, mg "STANDINGS" = some (.ref a) ∧ ∀ H, SqT K H a ([("dry" : Str), ("kept" : Str), ("wet" : Str)].map V.str)
  c_FIRM : ∃ t, mg "FIRM" = some (.str "firm" t)
  c_ECHO : ∃ t, mg "ECHO" = some (.str "echo" t)
abbrev N_is_integer : List Str := [("thing" : Str)]
abbrev P_is_integer : List Str := [("thing" : Str)]
theorem sc_is_integer : FnScope N_is_integer P_is_integer (defScope s_is_integer) := ⟨rfl, rfl, rfl, by decide +kernel, rfl, by decide +kernel, by decide +kernel⟩
def T_is_integer : XS := (sRet (xAnd (xIsi (xVarR 0) "int") (xNot (xIsi (xVarR 0) "bool"))))
theorem b_is_integer {P : Program} {w : World} {K : PySem.W.Frag} {mg : Str → Option Value} {base : Heap} {dn : Dn} {f : Addr}  (G : Gs K mg) (cdv : Value) (A : Around) (outer : List Env) (s : Shared) (H : Hp) (E : XK) (B : Bs) (hB : B.dn = dn) (hr : Room 0 (A.deeper (envOfC "is_integer" (defScope s_is_integer) s.heap.objs.size f cdv))) : DSs (cxOf CX0 P w K mg base N_is_integer "is_integer" (defScope s_is_integer) f cdv A outer s H E).nox B (defBody s_is_integer) (T_is_integer) := by
  subst hB
  have nd := sc_is_integer.nd
  exact (dss_one (ds_ret (de_and (de_isi (ty := "int") rfl G.f_isinstance rfl G.f_int boot_int (by decide) (by decide) (dr_var (i := 0))) (de_one (de_not (de_isi (ty := "bool") rfl G.f_isinstance rfl G.f_bool boot_bool (by decide) (by decide) (dr_var (i := 0))))))))
abbrev N_is_between : List Str := [("thing" : Str), ("least" : Str), ("most" : Str)]
abbrev P_is_between : List Str := [("thing" : Str), ("least" : Str), ("most" : Str)]
theorem sc_is_between : FnScope N_is_between P_is_between (defScope s_is_between) := ⟨rfl, rfl, rfl, by decide +kernel, rfl, by decide +kernel, by decide +kernel⟩
def T_is_between (S_is_integer : FS) : XS := (sRet (xAnd (xCall S_is_integer (xCons (xVar 0) xNil)) (xChain (fun i j => decide (i ≤ j)) (fun i j => decide (i ≤ j)) (xVarR 1) (xVarR 0) (xVarR 2))))
theorem b_is_between {P : Program} {w : World} {K : PySem.W.Frag} {mg : Str → Option Value} {base : Heap} {dn : Dn} {f : Addr}{ S_is_integer : FS}  (G : Gs K mg) (c_is_integer : Cal P w K mg base dn 1 "is_integer" s_is_integer P_is_integer S_is_integer) (cdv : Value) (A : Around) (outer : List Env) (s : Shared) (H : Hp) (E : XK) (B : Bs) (hB : B.dn = dn) (hr : Room 1 (A.deeper (envOfC "is_between" (defScope s_is_between) s.heap.objs.size f cdv))) : DSs (cxOf CX0 P w K mg base N_is_between "is_between" (defScope s_is_between) f cdv A outer s H E).nox B (defBody s_is_between) (T_is_between S_is_integer) := by
  subst hB
  have nd := sc_is_between.nd
  exact (dss_one (ds_ret (de_and (c_is_integer.de hr (by decide) rfl (da_cons (de_var (i := 0)) da_nil)) (de_one (de_chain op_le op_le (dr_var (i := 1)) (dr_var (i := 0)) (dr_var (i := 2)))))))
abbrev N_is_pair_of : List Str := [("n" : Str), ("thing" : Str)]
abbrev P_is_pair_of : List Str := [("n" : Str), ("thing" : Str)]
theorem sc_is_pair_of : FnScope N_is_pair_of P_is_pair_of (defScope s_is_pair_of) := ⟨rfl, rfl, rfl, by decide +kernel, rfl, by decide +kernel, by decide +kernel⟩
def T_is_pair_of (S_is_between : FS) : XS := (sSeq (sIf (tOrX (tNotX (tBl (xIsi (xVarR 1) "tuple"))) (tBl (x2 cNe (xCB cLen (xCons (xVarR 1) xNil)) (xC (.int 2))))) (sRet (xC (.bool false))) sNext) (sRet (xAnd (xCall S_is_between (xCons (xFlat (xIx (xVarR 1) (xC (.int 0)))) (xCons (xC (.int 0)) (xCons (x2 (cI0 fun i j => i - j) (xVarR 0) (xC (.int 1))) xNil)))) (xAnd (xCall S_is_between (xCons (xFlat (xIx (xVarR 1) (xC (.int 1)))) (xCons (xC (.int 0)) (xCons (x2 (cI0 fun i j => i - j) (xVarR 0) (xC (.int 1))) xNil)))) (x2 cNe (xIx (xVarR 1) (xC (.int 0))) (xIx (xVarR 1) (xC (.int 1))))))))
theorem b_is_pair_of {P : Program} {w : World} {K : PySem.W.Frag} {mg : Str → Option Value} {base : Heap} {dn : Dn} {f : Addr}{ S_is_between : FS}  (G : Gs K mg) (c_is_between : Cal P w K mg base dn 2 "is_between" s_is_between P_is_between S_is_between) (cdv : Value) (A : Around) (outer : List Env) (s : Shared) (H : Hp) (E : XK) (B : Bs) (hB : B.dn = dn) (hr : Room 2 (A.deeper (envOfC "is_pair_of" (defScope s_is_pair_of) s.heap.objs.size f cdv))) : DSs (cxOf CX0 P w K mg base N_is_pair_of "is_pair_of" (defScope s_is_pair_of) f cdv A outer s H E).nox B (defBody s_is_pair_of) (T_is_pair_of S_is_between) := by
  subst hB
  have nd := sc_is_pair_of.nd
  exact (dss_cons (ds_if (dt_w (dw_or (dt_not (dt_val (de_isi (ty := "tuple") rfl G.f_isinstance rfl G.f_tuple boot_tuple (by decide) (by decide) (dr_var (i := 1))))) (dw_or1 (dt_cmp (op_neD (rm64 hr)) (by rfl) ok_Ne (dr_of_de (de_cb ok_len (pe_callB call_len (by rfl) G.f_len boot_len (pa_sz (db_cons (dr_var (i := 1)) db_nil))))) (dr_of_de de_int))))) (dss_one (ds_ret de_bl)) dss_nil) (dss_one (ds_ret (de_and (c_is_between.de hr (by decide) rfl (da_cons (de_of_dr (dr_ix (rm1 hr) (dr_var (i := 1)) (dr_of_de de_int))) (da_cons de_int (da_cons (de_op op_sub ok_I0 (dr_var (i := 0)) (dr_of_de de_int)) da_nil)))) (de_and (c_is_between.de hr (by decide) rfl (da_cons (de_of_dr (dr_ix (rm1 hr) (dr_var (i := 1)) (dr_of_de de_int))) (da_cons de_int (da_cons (de_op op_sub ok_I0 (dr_var (i := 0)) (dr_of_de de_int)) da_nil)))) (de_one (de_cmp (op_neD (rm64 hr)) (by rfl) ok_Ne (dr_ix (rm1 hr) (dr_var (i := 1)) (dr_of_de de_int)) (dr_ix (rm1 hr) (dr_var (i := 1)) (dr_of_de de_int)))))))))
abbrev N_is_book_value : List Str := [("thing" : Str), ("pair" : Str), ("one" : Str), ("other" : Str)]
abbrev P_is_book_value : List Str := [("thing" : Str)]
theorem sc_is_book_value : FnScope N_is_book_value P_is_book_value (defScope s_is_book_value) := ⟨rfl, rfl, rfl, by decide +kernel, rfl, by decide +kernel, by decide +kernel⟩
def T_is_book_value (S_is_between : FS) (S_is_pair_of : FS) : XS := (sSeq (sIf (tOrX (tNotX (tBl (xIsi (xVarR 0) "tuple"))) (tOrX (tBl (x2 cNe (xCB cLen (xCons (xVarR 0) xNil)) (xC (.int 2)))) (tNotX (tBl (xCall S_is_between (xCons (xFlat (xIx (xVarR 0) (xC (.int 0)))) (xCons (xC (.int 1)) (xCons (xC (.int 10)) xNil)))))))) (sRet (xC (.bool false))) sNext) (sSeq (sIf (tOrX (tNotX (tBl (xIsi (xIx (xVarR 0) (xC (.int 1))) "tuple"))) (tNotX (tBl (xCB cAll (xCons (xLC (xSeq (xIx (xVarR 0) (xC (.int 1)))) (gNm 1) uYes (xCall S_is_pair_of (xCons (xFlat (xIx (xVarR 0) (xC (.int 0)))) (xCons (xVar 1) xNil))) [1]) xNil))))) (sRet (xC (.bool false))) sNext) (sRet (xCB cAll (xCons (xLC (xZip (xCons (xIx (xVarR 0) (xC (.int 1))) (xCons (xSl (xIx (xVarR 0) (xC (.int 1))) (xPart (xC (.int 1))) xNoPart) xNil))) (gTp 2 (gC (gNm 2) (gC (gNm 3) gN0))) uYes (x2 cLtD (xVarR 2) (xVarR 3)) [2, 3]) xNil)))))
theorem b_is_book_value {P : Program} {w : World} {K : PySem.W.Frag} {mg : Str → Option Value} {base : Heap} {dn : Dn} {f : Addr}{ S_is_between S_is_pair_of : FS}  (G : Gs K mg) (c_is_between : Cal P w K mg base dn 2 "is_between" s_is_between P_is_between S_is_between) (c_is_pair_of : Cal P w K mg base dn 3 "is_pair_of" s_is_pair_of P_is_pair_of S_is_pair_of) (cdv : Value) (A : Around) (outer : List Env) (s : Shared) (H : Hp) (E : XK) (B : Bs) (hB : B.dn = dn) (hr : Room 3 (A.deeper (envOfC "is_book_value" (defScope s_is_book_value) s.heap.objs.size f cdv))) : DSs (cxOf CX0 P w K mg base N_is_book_value "is_book_value" (defScope s_is_book_value) f cdv A outer s H E).nox B (defBody s_is_book_value) (T_is_book_value S_is_between S_is_pair_of) := by
  subst hB
  have nd := sc_is_book_value.nd
  exact (dss_cons (ds_if (dt_w (dw_or (dt_not (dt_val (de_isi (ty := "tuple") rfl G.f_isinstance rfl G.f_tuple boot_tuple (by decide) (by decide) (dr_var (i := 0))))) (dw_or (dt_cmp (op_neD (rm64 hr)) (by rfl) ok_Ne (dr_of_de (de_cb ok_len (pe_callB call_len (by rfl) G.f_len boot_len (pa_sz (db_cons (dr_var (i := 0)) db_nil))))) (dr_of_de de_int)) (dw_or1 (dt_not (dt_val (c_is_between.de hr (by decide) rfl (da_cons (de_of_dr (dr_ix (rm1 hr) (dr_var (i := 0)) (dr_of_de de_int))) (da_cons de_int (da_cons (de_globI rfl G.c_MOST_TERRACES) da_nil)))))))))) (dss_one (ds_ret de_bl)) dss_nil) (dss_cons (ds_if (dt_w (dw_or (dt_not (dt_val (de_isi (ty := "tuple") rfl G.f_isinstance rfl G.f_tuple boot_tuple (by decide) (by decide) (dr_ix (rm1 hr) (dr_var (i := 0)) (dr_of_de de_int))))) (dw_or1 (dt_not (dt_val (de_cb ok_all (pe_callB (cr_all rfl) (by rfl) G.f_all boot_all (pa_sz (db_cons (dr_of_de (de_lc (pe_lc (own := [(("pair" : Str), 1)]) rfl nd (dib_seq (dr_ix (rm1 hr) (dr_var (i := 0)) (dr_of_de de_int))) (blkOk_by (by kernel_rfl)) (fun _ _ _ _ _ => (dg_name (i := 1) nd)) (fun _ _ _ _ _ => dts_nil) (fun _ _ _ _ _ => (c_is_pair_of.de hr (by decide) rfl (da_cons (de_of_dr (dr_ix (rm1 hr) (dr_var (i := 0)) (dr_of_de de_int))) (da_cons (de_var (i := 1)) da_nil))))))) db_nil))))))))) (dss_one (ds_ret de_bl)) dss_nil) (dss_one (ds_ret (de_cb ok_all (pe_callB (cr_all rfl) (by rfl) G.f_all boot_all (pa_sz (db_cons (dr_of_de (de_lc (pe_lc (own := [(("one" : Str), 2), (("other" : Str), 3)]) rfl nd (dib_zip (pi_zipB rfl G.f_zip (db_cons (dr_ix (rm1 hr) (dr_var (i := 0)) (dr_of_de de_int)) (db_cons (dr_of_de (de_sl (dr_ix (rm1 hr) (dr_var (i := 0)) (dr_of_de de_int)) (do_some (dr_of_de de_int)) do_none)) db_nil)))) (blkOk_by (by kernel_rfl)) (fun _ _ _ _ _ => (dg_tup rfl (dgs_cons (dg_name (i := 2) nd) (dgs_cons (dg_name (i := 3) nd) dgs_nil)))) (fun _ _ _ _ _ => dts_nil) (fun _ _ _ _ _ => (de_cmp (op_ltD (rm65 hr)) (by rfl) ok_LtD (dr_var (i := 2)) (dr_var (i := 3))))))) db_nil))))))))
abbrev N_need_book : List Str := [("book" : Str)]
abbrev P_need_book : List Str := [("book" : Str)]
theorem sc_need_book : FnScope N_need_book P_need_book (defScope s_need_book) := ⟨rfl, rfl, rfl, by decide +kernel, rfl, by decide +kernel, by decide +kernel⟩
def T_need_book (S_is_book_value : FS) : XS := (sIf (tNotX (tBl (xCall S_is_book_value (xCons (xVar 0) xNil)))) sNever sNext)
theorem b_need_book {P : Program} {w : World} {K : PySem.W.Frag} {mg : Str → Option Value} {base : Heap} {dn : Dn} {f : Addr}{ S_is_book_value : FS}  (G : Gs K mg) (c_is_book_value : Cal P w K mg base dn 4 "is_book_value" s_is_book_value P_is_book_value S_is_book_value) (cdv : Value) (A : Around) (outer : List Env) (s : Shared) (H : Hp) (E : XK) (B : Bs) (hB : B.dn = dn) (hr : Room 4 (A.deeper (envOfC "need_book" (defScope s_need_book) s.heap.objs.size f cdv))) : DSs (cxOf CX0 P w K mg base N_need_book "need_book" (defScope s_need_book) f cdv A outer s H E).nox B (defBody s_need_book) (T_need_book S_is_book_value) := by
  subst hB
  have nd := sc_need_book.nd
  exact (dss_one (ds_if (dt_not (dt_val (c_is_book_value.de hr (by decide) rfl (da_cons (de_var (i := 0)) da_nil)))) (dss_one ds_never) dss_nil))
abbrev N_lows : List Str := [("hill" : Str), ("found" : Str), ("a" : Str), ("b" : Str), ("x" : Str)]
abbrev P_lows : List Str := [("hill" : Str)]
theorem sc_lows : FnScope N_lows P_lows (defScope s_lows) := ⟨rfl, rfl, rfl, by decide +kernel, rfl, by decide +kernel, by decide +kernel⟩
def T_lows : XS := (sSeq (sSet 1 (xLC (xRange1 (xCons (xIx (xVarR 0) (xC (.int 0))) xNil)) (gNm 4) uYes (x2 (cI CPow fun i j => i * 2 ^ j.toNat) (xC (.int 1)) (xVarR 4)) [4])) (sSeq (sFor (xSeq (xFlat (xIx (xVarR 0) (xC (.int 1))))) (gTp 2 (gC (gNm 2) (gC (gNm 3) gN0))) (sSetIx 1 (xVarR 3) (x2 (cI0 Builtin.bitOr) (xIx (xVarR 1) (xVarR 3)) (x2 (cI CPow fun i j => i * 2 ^ j.toNat) (xC (.int 1)) (xVarR 2))))) (sRetV 1)))
theorem b_lows {P : Program} {w : World} {K : PySem.W.Frag} {mg : Str → Option Value} {base : Heap} {dn : Dn} {f : Addr}  (G : Gs K mg) (cdv : Value) (A : Around) (outer : List Env) (s : Shared) (H : Hp) (E : XK) (B : Bs) (hB : B.dn = dn) (hr : Room 0 (A.deeper (envOfC "lows" (defScope s_lows) s.heap.objs.size f cdv))) : DSs (cxOf CX0 P w K mg base N_lows "lows" (defScope s_lows) f cdv A outer s H E).nox B (defBody s_lows) (T_lows) := by
  subst hB
  have nd := sc_lows.nd
  exact (dss_cons (ds_setLc (ps_setLc (i := 1) (own := [(("x" : Str), 4)]) rfl nd rfl rfl (sw_true rfl rfl rfl (by decide +kernel)) (dib_of (dif_range1 (pi_range1 rfl G.f_range (db_cons (dr_ix (rm1 hr) (dr_var (i := 0)) (dr_of_de de_int)) db_nil)))) (blkOk_by (by kernel_rfl)) (fun _ _ _ _ _ => (dg_name (i := 4) nd)) (fun _ _ _ _ _ => dts_nil) (fun _ _ _ _ _ => (de_op op_shl ok_I (dr_of_de de_int) (dr_var (i := 4)))))) (dss_cons (ds_for (ps_for PassesOwn.never rfl (dif_seq (de_of_dr (dr_ix (rm1 hr) (dr_var (i := 0)) (dr_of_de de_int)))) (dg_tup rfl (dgs_cons (dg_name (i := 2) nd) (dgs_cons (dg_name (i := 3) nd) dgs_nil))) (dss_one (ds_setIx (ps_asg (de_op op_or ok_I0 (dr_ix (rm1 hr) (dr_var (i := 1)) (dr_var (i := 3))) (dr_of_de (de_op op_shl ok_I (dr_of_de de_int) (dr_var (i := 2))))) (pg_sub (pe_var (i := 1) rfl (by first | exact Or.inl rfl | exact Or.inr (Or.inl rfl) | exact Or.inr (Or.inr rfl))) (dr_var (i := 3)) set_list)))))) (dss_one (ds_retv (i := 1) (ps_ret (pe_var rfl (by first | exact Or.inl rfl | exact Or.inr (Or.inl rfl) | exact Or.inr (Or.inr rfl))))))))
abbrev N_highs : List Str := [("hill" : Str), ("found" : Str), ("a" : Str), ("b" : Str), ("x" : Str)]
abbrev P_highs : List Str := [("hill" : Str)]
theorem sc_highs : FnScope N_highs P_highs (defScope s_highs) := ⟨rfl, rfl, rfl, by decide +kernel, rfl, by decide +kernel, by decide +kernel⟩
def T_highs : XS := (sSeq (sSet 1 (xLC (xRange1 (xCons (xIx (xVarR 0) (xC (.int 0))) xNil)) (gNm 4) uYes (x2 (cI CPow fun i j => i * 2 ^ j.toNat) (xC (.int 1)) (xVarR 4)) [4])) (sSeq (sFor (xSeq (xFlat (xIx (xVarR 0) (xC (.int 1))))) (gTp 2 (gC (gNm 2) (gC (gNm 3) gN0))) (sSetIx 1 (xVarR 2) (x2 (cI0 Builtin.bitOr) (xIx (xVarR 1) (xVarR 2)) (x2 (cI CPow fun i j => i * 2 ^ j.toNat) (xC (.int 1)) (xVarR 3))))) (sRetV 1)))
theorem b_highs {P : Program} {w : World} {K : PySem.W.Frag} {mg : Str → Option Value} {base : Heap} {dn : Dn} {f : Addr}  (G : Gs K mg) (cdv : Value) (A : Around) (outer : List Env) (s : Shared) (H : Hp) (E : XK) (B : Bs) (hB : B.dn = dn) (hr : Room 0 (A.deeper (envOfC "highs" (defScope s_highs) s.heap.objs.size f cdv))) : DSs (cxOf CX0 P w K mg base N_highs "highs" (defScope s_highs) f cdv A outer s H E).nox B (defBody s_highs) (T_highs) := by
  subst hB
  have nd := sc_highs.nd
  exact (dss_cons (ds_setLc (ps_setLc (i := 1) (own := [(("x" : Str), 4)]) rfl nd rfl rfl (sw_true rfl rfl rfl (by decide +kernel)) (dib_of (dif_range1 (pi_range1 rfl G.f_range (db_cons (dr_ix (rm1 hr) (dr_var (i := 0)) (dr_of_de de_int)) db_nil)))) (blkOk_by (by kernel_rfl)) (fun _ _ _ _ _ => (dg_name (i := 4) nd)) (fun _ _ _ _ _ => dts_nil) (fun _ _ _ _ _ => (de_op op_shl ok_I (dr_of_de de_int) (dr_var (i := 4)))))) (dss_cons (ds_for (ps_for PassesOwn.never rfl (dif_seq (de_of_dr (dr_ix (rm1 hr) (dr_var (i := 0)) (dr_of_de de_int)))) (dg_tup rfl (dgs_cons (dg_name (i := 2) nd) (dgs_cons (dg_name (i := 3) nd) dgs_nil))) (dss_one (ds_setIx (ps_asg (de_op op_or ok_I0 (dr_ix (rm1 hr) (dr_var (i := 1)) (dr_var (i := 2))) (dr_of_de (de_op op_shl ok_I (dr_of_de de_int) (dr_var (i := 3))))) (pg_sub (pe_var (i := 1) rfl (by first | exact Or.inl rfl | exact Or.inr (Or.inl rfl) | exact Or.inr (Or.inr rfl))) (dr_var (i := 2)) set_list)))))) (dss_one (ds_retv (i := 1) (ps_ret (pe_var rfl (by first | exact Or.inl rfl | exact Or.inr (Or.inl rfl) | exact Or.inr (Or.inr rfl))))))))
abbrev N_hill_of_lows : List Str := [("found" : Str), ("n" : Str), ("pairs" : Str), ("a" : Str), ("b" : Str)]
abbrev P_hill_of_lows : List Str := [("found" : Str)]
theorem sc_hill_of_lows : FnScope N_hill_of_lows P_hill_of_lows (defScope s_hill_of_lows) := ⟨rfl, rfl, rfl, by decide +kernel, rfl, by decide +kernel, by decide +kernel⟩
def T_hill_of_lows : XS := (sSeq (sSet 1 (xCB cLen (xCons (xVarR 0) xNil))) (sSeq (sSet 2 (xLC2 (xRange1 (xCons (xVarR 1) xNil)) (gNm 3) uYes (xRange1 (xCons (xVarR 1) xNil)) (gNm 4) (tAndX (tBl (x2 cNe (xVarR 3) (xVarR 4))) (tBl (x2 cEq (x2 (cI0 Builtin.bitAnd) (x2 (cI (fun _ j => 0 ≤ j) fun i j => i / 2 ^ j.toNat) (xIx (xVarR 0) (xVarR 4)) (xVarR 3)) (xC (.int 1))) (xC (.int 1))))) (xTup (xCons (xVar 3) (xCons (xVar 4) xNil))) [3, 4] [4])) (sRet (xTup (xCons (xVar 1) (xCons (xCB cTup (xCons (xVarR 2) xNil)) xNil))))))
theorem b_hill_of_lows {P : Program} {w : World} {K : PySem.W.Frag} {mg : Str → Option Value} {base : Heap} {dn : Dn} {f : Addr}  (G : Gs K mg) (cdv : Value) (A : Around) (outer : List Env) (s : Shared) (H : Hp) (E : XK) (B : Bs) (hB : B.dn = dn) (hr : Room 0 (A.deeper (envOfC "hill_of_lows" (defScope s_hill_of_lows) s.heap.objs.size f cdv))) : DSs (cxOf CX0 P w K mg base N_hill_of_lows "hill_of_lows" (defScope s_hill_of_lows) f cdv A outer s H E).nox B (defBody s_hill_of_lows) (T_hill_of_lows) := by
  subst hB
  have nd := sc_hill_of_lows.nd
  exact (dss_cons (ds_set (i := 1) nd (de_cb ok_len (pe_callB call_len (by rfl) G.f_len boot_len (pa_sz (db_cons (dr_var (i := 0)) db_nil))))) (dss_cons (ds_setLc2 (ps_setLc2 (i := 2) (own := [(("a" : Str), 3), (("b" : Str), 4)]) (vs1 := [4]) rfl nd rfl rfl (sw_true rfl rfl rfl (by decide +kernel)) (dib_of (dif_range1 (pi_range1 rfl G.f_range (db_cons (dr_var (i := 1)) db_nil)))) (blkOk_by (by kernel_rfl)) (by decide) (fun _ _ _ _ _ => (dg_name (i := 3) nd)) (fun _ _ _ _ _ => dts_nil) (fun _ _ _ _ _ => (dif_range1 (pi_range1 rfl G.f_range (db_cons (dr_var (i := 1)) db_nil)))) (fun _ _ _ _ _ => (dg_name (i := 4) nd)) (fun _ _ _ _ _ => (dts_one (dt_w (dw_and (dt_cmp (op_neD (rm64 hr)) (by rfl) ok_Ne (dr_var (i := 3)) (dr_var (i := 4))) (dw_and1 (dt_cmp (op_eqD (rm64 hr)) (by rfl) ok_Eq (dr_of_de (de_op op_and ok_I0 (dr_of_de (de_op op_shr ok_I (dr_ix (rm1 hr) (dr_var (i := 0)) (dr_var (i := 4))) (dr_var (i := 3)))) (dr_of_de de_int))) (dr_of_de de_int))))))) (fun _ _ _ _ _ => (de_tup (da_cons (de_var (i := 3)) (da_cons (de_var (i := 4)) da_nil)))))) (dss_one (ds_ret (de_tup (da_cons (de_var (i := 1)) (da_cons (de_cb ok_tup (pe_callTy call_tuple_of (by rfl) G.f_tuple boot_tuple (pa_sz (db_cons (dr_var (i := 2)) db_nil)))) da_nil)))))))
abbrev N_closing_of : List Str := [("book" : Str), ("found" : Str), ("middle" : Str), ("b" : Str)]
abbrev P_closing_of : List Str := [("book" : Str)]
theorem sc_closing_of : FnScope N_closing_of P_closing_of (defScope s_closing_of) := ⟨rfl, rfl, rfl, by decide +kernel, rfl, by decide +kernel, by decide +kernel⟩
def T_closing_of (S_lows : FS) (S_hill_of_lows : FS) : XS := (sSeq (sSet 1 (xCall S_lows (xCons (xVar 0) xNil))) (sSeq (sFor (xRange1 (xCons (xIx (xVarR 0) (xC (.int 0))) xNil)) (gNm 2) (sFor (xRange1 (xCons (xIx (xVarR 0) (xC (.int 0))) xNil)) (gNm 3) (sIf (tBl (x2 cEq (x2 (cI0 Builtin.bitAnd) (x2 (cI (fun _ j => 0 ≤ j) fun i j => i / 2 ^ j.toNat) (xIx (xVarR 1) (xVarR 3)) (xVarR 2)) (xC (.int 1))) (xC (.int 1)))) (sSetIx 1 (xVarR 3) (x2 (cI0 Builtin.bitOr) (xIx (xVarR 1) (xVarR 3)) (xIx (xVarR 1) (xVarR 2)))) sNext))) (sFz [1] (sRet (xCall S_hill_of_lows (xCons (xVar 1) xNil))))))
theorem b_closing_of {P : Program} {w : World} {K : PySem.W.Frag} {mg : Str → Option Value} {base : Heap} {dn : Dn} {f : Addr}{ S_lows S_hill_of_lows : FS}  (G : Gs K mg) (c_lows : Cal P w K mg base dn 1 "lows" s_lows P_lows S_lows) (c_hill_of_lows : Cal P w K mg base dn 1 "hill_of_lows" s_hill_of_lows P_hill_of_lows S_hill_of_lows) (cdv : Value) (A : Around) (outer : List Env) (s : Shared) (H : Hp) (E : XK) (B : Bs) (hB : B.dn = dn) (hr : Room 1 (A.deeper (envOfC "closing_of" (defScope s_closing_of) s.heap.objs.size f cdv))) : DSs (cxOf CX0 P w K mg base N_closing_of "closing_of" (defScope s_closing_of) f cdv A outer s H E).nox B (defBody s_closing_of) (T_closing_of S_lows S_hill_of_lows) := by
  subst hB
  have nd := sc_closing_of.nd
  exact (dss_cons (ds_set (i := 1) nd (c_lows.de hr (by decide) rfl (da_cons (de_var (i := 0)) da_nil))) (dss_cons (ds_for (ps_for PassesOwn.never rfl (dif_range1 (pi_range1 rfl G.f_range (db_cons (dr_ix (rm1 hr) (dr_var (i := 0)) (dr_of_de de_int)) db_nil))) (dg_name (i := 2) nd) (dss_one (ds_for (ps_for PassesOwn.never rfl (dif_range1 (pi_range1 rfl G.f_range (db_cons (dr_ix (rm1 hr) (dr_var (i := 0)) (dr_of_de de_int)) db_nil))) (dg_name (i := 3) nd) (dss_one (ds_if (dt_cmp (op_eqD (rm64 hr)) (by rfl) ok_Eq (dr_of_de (de_op op_and ok_I0 (dr_of_de (de_op op_shr ok_I (dr_ix (rm1 hr) (dr_var (i := 1)) (dr_var (i := 3))) (dr_var (i := 2)))) (dr_of_de de_int))) (dr_of_de de_int)) (dss_one (ds_setIx (ps_asg (de_op op_or ok_I0 (dr_ix (rm1 hr) (dr_var (i := 1)) (dr_var (i := 3))) (dr_ix (rm1 hr) (dr_var (i := 1)) (dr_var (i := 2)))) (pg_sub (pe_var (i := 1) rfl (by first | exact Or.inl rfl | exact Or.inr (Or.inl rfl) | exact Or.inr (Or.inr rfl))) (dr_var (i := 3)) set_list)))) dss_nil))))))) (dss_one (ds_fz [1] (ds_ret (c_hill_of_lows.de hr (by decide) rfl (da_cons (de_var (i := 1)) da_nil)))))))
abbrev N_mask_of : List Str := [("lot" : Str), ("found" : Str), ("x" : Str)]
abbrev P_mask_of : List Str := [("lot" : Str)]
theorem sc_mask_of : FnScope N_mask_of P_mask_of (defScope s_mask_of) := ⟨rfl, rfl, rfl, by decide +kernel, rfl, by decide +kernel, by decide +kernel⟩
def T_mask_of : XS := (sSeq (sSet 1 (xC (.int 0))) (sSeq (sFor (xSeq (xVar 0)) (gNm 2) (sSet 1 (x2 (cI0 Builtin.bitOr) (xVarR 1) (x2 (cI CPow fun i j => i * 2 ^ j.toNat) (xC (.int 1)) (xVarR 2))))) (sRetV 1)))
theorem b_mask_of {P : Program} {w : World} {K : PySem.W.Frag} {mg : Str → Option Value} {base : Heap} {dn : Dn} {f : Addr}  (G : Gs K mg) (cdv : Value) (A : Around) (outer : List Env) (s : Shared) (H : Hp) (E : XK) (B : Bs) (hB : B.dn = dn) (hr : Room 0 (A.deeper (envOfC "mask_of" (defScope s_mask_of) s.heap.objs.size f cdv))) : DSs (cxOf CX0 P w K mg base N_mask_of "mask_of" (defScope s_mask_of) f cdv A outer s H E).nox B (defBody s_mask_of) (T_mask_of) := by
  subst hB
  have nd := sc_mask_of.nd
  exact (dss_cons (ds_set (i := 1) nd de_int) (dss_cons (ds_for (ps_for PassesOwn.never rfl (dif_seq (de_var (i := 0))) (dg_name (i := 2) nd) (dss_one (ds_set (i := 1) nd (de_op op_or ok_I0 (dr_var (i := 1)) (dr_of_de (de_op op_shl ok_I (dr_of_de de_int) (dr_var (i := 2))))))))) (dss_one (ds_retv (i := 1) (ps_ret (pe_var rfl (by first | exact Or.inl rfl | exact Or.inr (Or.inl rfl) | exact Or.inr (Or.inr rfl))))))))
abbrev N_lot_of : List Str := [("mask" : Str), ("x" : Str)]
abbrev P_lot_of : List Str := [("mask" : Str)]
theorem sc_lot_of : FnScope N_lot_of P_lot_of (defScope s_lot_of) := ⟨rfl, rfl, rfl, by decide +kernel, rfl, by decide +kernel, by decide +kernel⟩
def T_lot_of : XS := (sRet (xCB cTup (xCons (xLC (xRange1 (xCons (x1 cBitLen (xVarR 0)) xNil)) (gNm 1) (tBl (x2 cEq (x2 (cI0 Builtin.bitAnd) (x2 (cI (fun _ j => 0 ≤ j) fun i j => i / 2 ^ j.toNat) (xVarR 0) (xVarR 1)) (xC (.int 1))) (xC (.int 1)))) (xVar 1) [1]) xNil)))
theorem b_lot_of {P : Program} {w : World} {K : PySem.W.Frag} {mg : Str → Option Value} {base : Heap} {dn : Dn} {f : Addr}  (G : Gs K mg) (cdv : Value) (A : Around) (outer : List Env) (s : Shared) (H : Hp) (E : XK) (B : Bs) (hB : B.dn = dn) (hr : Room 0 (A.deeper (envOfC "lot_of" (defScope s_lot_of) s.heap.objs.size f cdv))) : DSs (cxOf CX0 P w K mg base N_lot_of "lot_of" (defScope s_lot_of) f cdv A outer s H E).nox B (defBody s_lot_of) (T_lot_of) := by
  subst hB
  have nd := sc_lot_of.nd
  exact (dss_one (ds_ret (de_cb ok_tup (pe_callTy call_tuple_of (by rfl) G.f_tuple boot_tuple (pa_sz (db_cons (dr_of_de (de_lc (pe_lc (own := [(("x" : Str), 1)]) rfl nd (dib_of (dif_range1 (pi_range1 rfl G.f_range (db_cons (dr_of_de (de_bitlen (pe_bits (dr_var (i := 0))))) db_nil)))) (blkOk_by (by kernel_rfl)) (fun _ _ _ _ _ => (dg_name (i := 1) nd)) (fun _ _ _ _ _ => (dts_one (dt_cmp (op_eqD (rm64 hr)) (by rfl) ok_Eq (dr_of_de (de_op op_and ok_I0 (dr_of_de (de_op op_shr ok_I (dr_var (i := 0)) (dr_var (i := 1)))) (dr_of_de de_int))) (dr_of_de de_int)))) (fun _ _ _ _ _ => (de_var (i := 1)))))) db_nil))))))
abbrev N_is_lot_value : List Str := [("hill" : Str), ("thing" : Str), ("x" : Str), ("one" : Str), ("other" : Str)]
abbrev P_is_lot_value : List Str := [("hill" : Str), ("thing" : Str)]
theorem sc_is_lot_value : FnScope N_is_lot_value P_is_lot_value (defScope s_is_lot_value) := ⟨rfl, rfl, rfl, by decide +kernel, rfl, by decide +kernel, by decide +kernel⟩
def T_is_lot_value (S_is_between : FS) : XS := (sSeq (sIf (tOrX (tNotX (tBl (xIsi (xVarR 1) "tuple"))) (tNotX (tBl (xCB cAll (xCons (xLC (xSeq (xVarR 1)) (gNm 2) uYes (xCall S_is_between (xCons (xVar 2) (xCons (xC (.int 0)) (xCons (x2 (cI0 fun i j => i - j) (xIx (xVarR 0) (xC (.int 0))) (xC (.int 1))) xNil)))) [2]) xNil))))) (sRet (xC (.bool false))) sNext) (sRet (xCB cAll (xCons (xLC (xZip (xCons (xVarR 1) (xCons (xSl (xVarR 1) (xPart (xC (.int 1))) xNoPart) xNil))) (gTp 2 (gC (gNm 3) (gC (gNm 4) gN0))) uYes (x2 cLtD (xVarR 3) (xVarR 4)) [3, 4]) xNil))))
theorem b_is_lot_value {P : Program} {w : World} {K : PySem.W.Frag} {mg : Str → Option Value} {base : Heap} {dn : Dn} {f : Addr}{ S_is_between : FS}  (G : Gs K mg) (c_is_between : Cal P w K mg base dn 2 "is_between" s_is_between P_is_between S_is_between) (cdv : Value) (A : Around) (outer : List Env) (s : Shared) (H : Hp) (E : XK) (B : Bs) (hB : B.dn = dn) (hr : Room 2 (A.deeper (envOfC "is_lot_value" (defScope s_is_lot_value) s.heap.objs.size f cdv))) : DSs (cxOf CX0 P w K mg base N_is_lot_value "is_lot_value" (defScope s_is_lot_value) f cdv A outer s H E).nox B (defBody s_is_lot_value) (T_is_lot_value S_is_between) := by
  subst hB
  have nd := sc_is_lot_value.nd
  exact (dss_cons (ds_if (dt_w (dw_or (dt_not (dt_val (de_isi (ty := "tuple") rfl G.f_isinstance rfl G.f_tuple boot_tuple (by decide) (by decide) (dr_var (i := 1))))) (dw_or1 (dt_not (dt_val (de_cb ok_all (pe_callB (cr_all rfl) (by rfl) G.f_all boot_all (pa_sz (db_cons (dr_of_de (de_lc (pe_lc (own := [(("x" : Str), 2)]) rfl nd (dib_seq (dr_var (i := 1))) (blkOk_by (by kernel_rfl)) (fun _ _ _ _ _ => (dg_name (i := 2) nd)) (fun _ _ _ _ _ => dts_nil) (fun _ _ _ _ _ => (c_is_between.de hr (by decide) rfl (da_cons (de_var (i := 2)) (da_cons de_int (da_cons (de_op op_sub ok_I0 (dr_ix (rm1 hr) (dr_var (i := 0)) (dr_of_de de_int)) (dr_of_de de_int)) da_nil)))))))) db_nil))))))))) (dss_one (ds_ret de_bl)) dss_nil) (dss_one (ds_ret (de_cb ok_all (pe_callB (cr_all rfl) (by rfl) G.f_all boot_all (pa_sz (db_cons (dr_of_de (de_lc (pe_lc (own := [(("one" : Str), 3), (("other" : Str), 4)]) rfl nd (dib_zip (pi_zipB rfl G.f_zip (db_cons (dr_var (i := 1)) (db_cons (dr_of_de (de_sl (dr_var (i := 1)) (do_some (dr_of_de de_int)) do_none)) db_nil)))) (blkOk_by (by kernel_rfl)) (fun _ _ _ _ _ => (dg_tup rfl (dgs_cons (dg_name (i := 3) nd) (dgs_cons (dg_name (i := 4) nd) dgs_nil)))) (fun _ _ _ _ _ => dts_nil) (fun _ _ _ _ _ => (de_cmp (op_ltD (rm65 hr)) (by rfl) ok_LtD (dr_var (i := 3)) (dr_var (i := 4))))))) db_nil)))))))
abbrev N_closed_mask : List Str := [("masks" : Str), ("mask" : Str), ("found" : Str), ("x" : Str)]
abbrev P_closed_mask : List Str := [("masks" : Str), ("mask" : Str)]
theorem sc_closed_mask : FnScope N_closed_mask P_closed_mask (defScope s_closed_mask) := ⟨rfl, rfl, rfl, by decide +kernel, rfl, by decide +kernel, by decide +kernel⟩
def T_closed_mask (S_lot_of : FS) : XS := (sSeq (sSet 2 (xC (.int 0))) (sSeq (sFor (xSeq (xCall S_lot_of (xCons (xVar 1) xNil))) (gNm 3) (sSet 2 (x2 (cI0 Builtin.bitOr) (xVarR 2) (xIx (xVarR 0) (xVarR 3))))) (sRetV 2)))
theorem b_closed_mask {P : Program} {w : World} {K : PySem.W.Frag} {mg : Str → Option Value} {base : Heap} {dn : Dn} {f : Addr}{ S_lot_of : FS}  (G : Gs K mg) (c_lot_of : Cal P w K mg base dn 1 "lot_of" s_lot_of P_lot_of S_lot_of) (cdv : Value) (A : Around) (outer : List Env) (s : Shared) (H : Hp) (E : XK) (B : Bs) (hB : B.dn = dn) (hr : Room 1 (A.deeper (envOfC "closed_mask" (defScope s_closed_mask) s.heap.objs.size f cdv))) : DSs (cxOf CX0 P w K mg base N_closed_mask "closed_mask" (defScope s_closed_mask) f cdv A outer s H E).nox B (defBody s_closed_mask) (T_closed_mask S_lot_of) := by
  subst hB
  have nd := sc_closed_mask.nd
  exact (dss_cons (ds_set (i := 2) nd de_int) (dss_cons (ds_for (ps_for PassesOwn.never rfl (dif_seq (c_lot_of.de hr (by decide) rfl (da_cons (de_var (i := 1)) da_nil))) (dg_name (i := 3) nd) (dss_one (ds_set (i := 2) nd (de_op op_or ok_I0 (dr_var (i := 2)) (dr_ix (rm1 hr) (dr_var (i := 0)) (dr_var (i := 3)))))))) (dss_one (ds_retv (i := 2) (ps_ret (pe_var rfl (by first | exact Or.inl rfl | exact Or.inr (Or.inl rfl) | exact Or.inr (Or.inr rfl))))))))
abbrev N_lower_mask : List Str := [("hill" : Str), ("mask" : Str)]
abbrev P_lower_mask : List Str := [("hill" : Str), ("mask" : Str)]
theorem sc_lower_mask : FnScope N_lower_mask P_lower_mask (defScope s_lower_mask) := ⟨rfl, rfl, rfl, by decide +kernel, rfl, by decide +kernel, by decide +kernel⟩
def T_lower_mask (S_closed_mask : FS) (S_lows : FS) : XS := (sRet (xCall S_closed_mask (xCons (xCall S_lows (xCons (xVar 0) xNil)) (xCons (xVar 1) xNil))))
theorem b_lower_mask {P : Program} {w : World} {K : PySem.W.Frag} {mg : Str → Option Value} {base : Heap} {dn : Dn} {f : Addr}{ S_closed_mask S_lows : FS}  (G : Gs K mg) (c_closed_mask : Cal P w K mg base dn 2 "closed_mask" s_closed_mask P_closed_mask S_closed_mask) (c_lows : Cal P w K mg base dn 1 "lows" s_lows P_lows S_lows) (cdv : Value) (A : Around) (outer : List Env) (s : Shared) (H : Hp) (E : XK) (B : Bs) (hB : B.dn = dn) (hr : Room 2 (A.deeper (envOfC "lower_mask" (defScope s_lower_mask) s.heap.objs.size f cdv))) : DSs (cxOf CX0 P w K mg base N_lower_mask "lower_mask" (defScope s_lower_mask) f cdv A outer s H E).nox B (defBody s_lower_mask) (T_lower_mask S_closed_mask S_lows) := by
  subst hB
  have nd := sc_lower_mask.nd
  exact (dss_one (ds_ret (c_closed_mask.de hr (by decide) rfl (da_cons (c_lows.de hr (by decide) rfl (da_cons (de_var (i := 0)) da_nil)) (da_cons (de_var (i := 1)) da_nil)))))
abbrev N_upper_mask : List Str := [("hill" : Str), ("mask" : Str)]
abbrev P_upper_mask : List Str := [("hill" : Str), ("mask" : Str)]
theorem sc_upper_mask : FnScope N_upper_mask P_upper_mask (defScope s_upper_mask) := ⟨rfl, rfl, rfl, by decide +kernel, rfl, by decide +kernel, by decide +kernel⟩
def T_upper_mask (S_closed_mask : FS) (S_highs : FS) : XS := (sRet (xCall S_closed_mask (xCons (xCall S_highs (xCons (xVar 0) xNil)) (xCons (xVar 1) xNil))))
theorem b_upper_mask {P : Program} {w : World} {K : PySem.W.Frag} {mg : Str → Option Value} {base : Heap} {dn : Dn} {f : Addr}{ S_closed_mask S_highs : FS}  (G : Gs K mg) (c_closed_mask : Cal P w K mg base dn 2 "closed_mask" s_closed_mask P_closed_mask S_closed_mask) (c_highs : Cal P w K mg base dn 1 "highs" s_highs P_highs S_highs) (cdv : Value) (A : Around) (outer : List Env) (s : Shared) (H : Hp) (E : XK) (B : Bs) (hB : B.dn = dn) (hr : Room 2 (A.deeper (envOfC "upper_mask" (defScope s_upper_mask) s.heap.objs.size f cdv))) : DSs (cxOf CX0 P w K mg base N_upper_mask "upper_mask" (defScope s_upper_mask) f cdv A outer s H E).nox B (defBody s_upper_mask) (T_upper_mask S_closed_mask S_highs) := by
  subst hB
  have nd := sc_upper_mask.nd
  exact (dss_one (ds_ret (c_closed_mask.de hr (by decide) rfl (da_cons (c_highs.de hr (by decide) rfl (da_cons (de_var (i := 0)) da_nil)) (da_cons (de_var (i := 1)) da_nil)))))
abbrev N_is_lower_value : List Str := [("hill" : Str), ("thing" : Str)]
abbrev P_is_lower_value : List Str := [("hill" : Str), ("thing" : Str)]
theorem sc_is_lower_value : FnScope N_is_lower_value P_is_lower_value (defScope s_is_lower_value) := ⟨rfl, rfl, rfl, by decide +kernel, rfl, by decide +kernel, by decide +kernel⟩
def T_is_lower_value (S_is_lot_value : FS) (S_lower_mask : FS) (S_mask_of : FS) : XS := (sRet (xAnd (xCall S_is_lot_value (xCons (xVar 0) (xCons (xVar 1) xNil))) (x2 cEq (xCall S_lower_mask (xCons (xVar 0) (xCons (xCall S_mask_of (xCons (xVar 1) xNil)) xNil))) (xCall S_mask_of (xCons (xVar 1) xNil)))))
theorem b_is_lower_value {P : Program} {w : World} {K : PySem.W.Frag} {mg : Str → Option Value} {base : Heap} {dn : Dn} {f : Addr}{ S_is_lot_value S_lower_mask S_mask_of : FS}  (G : Gs K mg) (c_is_lot_value : Cal P w K mg base dn 3 "is_lot_value" s_is_lot_value P_is_lot_value S_is_lot_value) (c_lower_mask : Cal P w K mg base dn 3 "lower_mask" s_lower_mask P_lower_mask S_lower_mask) (c_mask_of : Cal P w K mg base dn 1 "mask_of" s_mask_of P_mask_of S_mask_of) (cdv : Value) (A : Around) (outer : List Env) (s : Shared) (H : Hp) (E : XK) (B : Bs) (hB : B.dn = dn) (hr : Room 3 (A.deeper (envOfC "is_lower_value" (defScope s_is_lower_value) s.heap.objs.size f cdv))) : DSs (cxOf CX0 P w K mg base N_is_lower_value "is_lower_value" (defScope s_is_lower_value) f cdv A outer s H E).nox B (defBody s_is_lower_value) (T_is_lower_value S_is_lot_value S_lower_mask S_mask_of) := by
  subst hB
  have nd := sc_is_lower_value.nd
  exact (dss_one (ds_ret (de_and (c_is_lot_value.de hr (by decide) rfl (da_cons (de_var (i := 0)) (da_cons (de_var (i := 1)) da_nil))) (de_one (de_cmp (op_eqD (rm64 hr)) (by rfl) ok_Eq (dr_of_de (c_lower_mask.de hr (by decide) rfl (da_cons (de_var (i := 0)) (da_cons (c_mask_of.de hr (by decide) rfl (da_cons (de_var (i := 1)) da_nil)) da_nil)))) (dr_of_de (c_mask_of.de hr (by decide) rfl (da_cons (de_var (i := 1)) da_nil))))))))
abbrev N_is_upper_value : List Str := [("hill" : Str), ("thing" : Str)]
abbrev P_is_upper_value : List Str := [("hill" : Str), ("thing" : Str)]
theorem sc_is_upper_value : FnScope N_is_upper_value P_is_upper_value (defScope s_is_upper_value) := ⟨rfl, rfl, rfl, by decide +kernel, rfl, by decide +kernel, by decide +kernel⟩
def T_is_upper_value (S_is_lot_value : FS) (S_upper_mask : FS) (S_mask_of : FS) : XS := (sRet (xAnd (xCall S_is_lot_value (xCons (xVar 0) (xCons (xVar 1) xNil))) (x2 cEq (xCall S_upper_mask (xCons (xVar 0) (xCons (xCall S_mask_of (xCons (xVar 1) xNil)) xNil))) (xCall S_mask_of (xCons (xVar 1) xNil)))))
theorem b_is_upper_value {P : Program} {w : World} {K : PySem.W.Frag} {mg : Str → Option Value} {base : Heap} {dn : Dn} {f : Addr}{ S_is_lot_value S_upper_mask S_mask_of : FS}  (G : Gs K mg) (c_is_lot_value : Cal P w K mg base dn 3 "is_lot_value" s_is_lot_value P_is_lot_value S_is_lot_value) (c_upper_mask : Cal P w K mg base dn 3 "upper_mask" s_upper_mask P_upper_mask S_upper_mask) (c_mask_of : Cal P w K mg base dn 1 "mask_of" s_mask_of P_mask_of S_mask_of) (cdv : Value) (A : Around) (outer : List Env) (s : Shared) (H : Hp) (E : XK) (B : Bs) (hB : B.dn = dn) (hr : Room 3 (A.deeper (envOfC "is_upper_value" (defScope s_is_upper_value) s.heap.objs.size f cdv))) : DSs (cxOf CX0 P w K mg base N_is_upper_value "is_upper_value" (defScope s_is_upper_value) f cdv A outer s H E).nox B (defBody s_is_upper_value) (T_is_upper_value S_is_lot_value S_upper_mask S_mask_of) := by
  subst hB
  have nd := sc_is_upper_value.nd
  exact (dss_one (ds_ret (de_and (c_is_lot_value.de hr (by decide) rfl (da_cons (de_var (i := 0)) (da_cons (de_var (i := 1)) da_nil))) (de_one (de_cmp (op_eqD (rm64 hr)) (by rfl) ok_Eq (dr_of_de (c_upper_mask.de hr (by decide) rfl (da_cons (de_var (i := 0)) (da_cons (c_mask_of.de hr (by decide) rfl (da_cons (de_var (i := 1)) da_nil)) da_nil)))) (dr_of_de (c_mask_of.de hr (by decide) rfl (da_cons (de_var (i := 1)) da_nil))))))))
abbrev N_is_kind_value : List Str := [("hill" : Str), ("thing" : Str)]
abbrev P_is_kind_value : List Str := [("hill" : Str), ("thing" : Str)]
theorem sc_is_kind_value : FnScope N_is_kind_value P_is_kind_value (defScope s_is_kind_value) := ⟨rfl, rfl, rfl, by decide +kernel, rfl, by decide +kernel, by decide +kernel⟩
def T_is_kind_value (S_is_lower_value : FS) (S_is_upper_value : FS) : XS := (sSeq (sIf (tOrX (tNotX (tBl (xIsi (xVarR 1) "tuple"))) (tBl (x2 cNe (xCB cLen (xCons (xVarR 1) xNil)) (xC (.int 2))))) (sRet (xC (.bool false))) sNext) (sRet (xAnd (xCall S_is_lower_value (xCons (xVar 0) (xCons (xFlat (xIx (xVarR 1) (xC (.int 0)))) xNil))) (xCall S_is_upper_value (xCons (xVar 0) (xCons (xFlat (xIx (xVarR 1) (xC (.int 1)))) xNil))))))
theorem b_is_kind_value {P : Program} {w : World} {K : PySem.W.Frag} {mg : Str → Option Value} {base : Heap} {dn : Dn} {f : Addr}{ S_is_lower_value S_is_upper_value : FS}  (G : Gs K mg) (c_is_lower_value : Cal P w K mg base dn 4 "is_lower_value" s_is_lower_value P_is_lower_value S_is_lower_value) (c_is_upper_value : Cal P w K mg base dn 4 "is_upper_value" s_is_upper_value P_is_upper_value S_is_upper_value) (cdv : Value) (A : Around) (outer : List Env) (s : Shared) (H : Hp) (E : XK) (B : Bs) (hB : B.dn = dn) (hr : Room 4 (A.deeper (envOfC "is_kind_value" (defScope s_is_kind_value) s.heap.objs.size f cdv))) : DSs (cxOf CX0 P w K mg base N_is_kind_value "is_kind_value" (defScope s_is_kind_value) f cdv A outer s H E).nox B (defBody s_is_kind_value) (T_is_kind_value S_is_lower_value S_is_upper_value) := by
  subst hB
  have nd := sc_is_kind_value.nd
  exact (dss_cons (ds_if (dt_w (dw_or (dt_not (dt_val (de_isi (ty := "tuple") rfl G.f_isinstance rfl G.f_tuple boot_tuple (by decide) (by decide) (dr_var (i := 1))))) (dw_or1 (dt_cmp (op_neD (rm64 hr)) (by rfl) ok_Ne (dr_of_de (de_cb ok_len (pe_callB call_len (by rfl) G.f_len boot_len (pa_sz (db_cons (dr_var (i := 1)) db_nil))))) (dr_of_de de_int))))) (dss_one (ds_ret de_bl)) dss_nil) (dss_one (ds_ret (de_and (c_is_lower_value.de hr (by decide) rfl (da_cons (de_var (i := 0)) (da_cons (de_of_dr (dr_ix (rm1 hr) (dr_var (i := 1)) (dr_of_de de_int))) da_nil))) (de_one (c_is_upper_value.de hr (by decide) rfl (da_cons (de_var (i := 0)) (da_cons (de_of_dr (dr_ix (rm1 hr) (dr_var (i := 1)) (dr_of_de de_int))) da_nil))))))))
abbrev N_standing_of : List Str := [("script" : Str), ("below" : Str), ("above" : Str), ("word" : Str), ("x" : Str)]
abbrev P_standing_of : List Str := [("script" : Str), ("below" : Str), ("above" : Str)]
theorem sc_standing_of : FnScope N_standing_of P_standing_of (defScope s_standing_of) := ⟨rfl, rfl, rfl, by decide +kernel, rfl, by decide +kernel, by decide +kernel⟩
def T_standing_of : XS := (sSeq (sFor (xSeq (xRev (xVarR 0))) (gTp 2 (gC (gNm 3) (gC (gNm 4) gN0))) (sSeq (sIf (tAndX (tBl (x2 cEq (xVarR 3) (xC (.str ("pour" : Str))))) (tBl (x2 (cIn false) (xVarR 4) (xVarR 2)))) (sRet (xC (.str ("wet" : Str)))) sNext) (sIf (tAndX (tBl (x2 cEq (xVarR 3) (xC (.str ("open" : Str))))) (tBl (x2 (cIn false) (xVarR 4) (xVarR 1)))) (sRet (xC (.str ("dry" : Str)))) sNext))) (sRet (xC (.str ("kept" : Str)))))
theorem b_standing_of {P : Program} {w : World} {K : PySem.W.Frag} {mg : Str → Option Value} {base : Heap} {dn : Dn} {f : Addr}  (G : Gs K mg) (cdv : Value) (A : Around) (outer : List Env) (s : Shared) (H : Hp) (E : XK) (B : Bs) (hB : B.dn = dn) (hr : Room 0 (A.deeper (envOfC "standing_of" (defScope s_standing_of) s.heap.objs.size f cdv))) : DSs (cxOf CX0 P w K mg base N_standing_of "standing_of" (defScope s_standing_of) f cdv A outer s H E).nox B (defBody s_standing_of) (T_standing_of) := by
  subst hB
  have nd := sc_standing_of.nd
  exact (dss_cons (ds_for (ps_for PassesOwn.never rfl (dif_seq (de_rev (dr_var (i := 0)))) (dg_tup rfl (dgs_cons (dg_name (i := 3) nd) (dgs_cons (dg_name (i := 4) nd) dgs_nil))) (dss_cons (ds_if (dt_w (dw_and (dt_cmp (op_eqD (rm64 hr)) (by rfl) ok_Eq (dr_var (i := 3)) (dr_of_de de_str)) (dw_and1 (dt_cmp (op_inAll (rm65 hr)) (by rfl) ok_In (dr_var (i := 4)) (dr_var (i := 2)))))) (dss_one (ds_ret de_str)) dss_nil) (dss_one (ds_if (dt_w (dw_and (dt_cmp (op_eqD (rm64 hr)) (by rfl) ok_Eq (dr_var (i := 3)) (dr_of_de de_str)) (dw_and1 (dt_cmp (op_inAll (rm65 hr)) (by rfl) ok_In (dr_var (i := 4)) (dr_var (i := 1)))))) (dss_one (ds_ret de_str)) dss_nil))))) (dss_one (ds_ret de_str)))
abbrev N_is_deed_value : List Str := [("n" : Str), ("thing" : Str)]
abbrev P_is_deed_value : List Str := [("n" : Str), ("thing" : Str)]
theorem sc_is_deed_value : FnScope N_is_deed_value P_is_deed_value (defScope s_is_deed_value) := ⟨rfl, rfl, rfl, by decide +kernel, rfl, by decide +kernel, by decide +kernel⟩
def T_is_deed_value (S_is_between : FS) : XS := (sSeq (sIf (tOrX (tNotX (tBl (xIsi (xVarR 1) "tuple"))) (tOrX (tBl (x2 cNe (xCB cLen (xCons (xVarR 1) xNil)) (xC (.int 2)))) (tNotX (tBl (xIsi (xIx (xVarR 1) (xC (.int 0))) "str"))))) (sRet (xC (.bool false))) sNext) (sRet (xAnd (x2 (cIn false) (xIx (xVarR 1) (xC (.int 0))) (xC (.tuple (List.map .str [("pour" : Str), ("open" : Str)])))) (xCall S_is_between (xCons (xFlat (xIx (xVarR 1) (xC (.int 1)))) (xCons (xC (.int 0)) (xCons (x2 (cI0 fun i j => i - j) (xVarR 0) (xC (.int 1))) xNil)))))))
theorem b_is_deed_value {P : Program} {w : World} {K : PySem.W.Frag} {mg : Str → Option Value} {base : Heap} {dn : Dn} {f : Addr}{ S_is_between : FS}  (G : Gs K mg) (c_is_between : Cal P w K mg base dn 2 "is_between" s_is_between P_is_between S_is_between) (cdv : Value) (A : Around) (outer : List Env) (s : Shared) (H : Hp) (E : XK) (B : Bs) (hB : B.dn = dn) (hr : Room 2 (A.deeper (envOfC "is_deed_value" (defScope s_is_deed_value) s.heap.objs.size f cdv))) : DSs (cxOf CX0 P w K mg base N_is_deed_value "is_deed_value" (defScope s_is_deed_value) f cdv A outer s H E).nox B (defBody s_is_deed_value) (T_is_deed_value S_is_between) := by
  subst hB
  have nd := sc_is_deed_value.nd
  exact (dss_cons (ds_if (dt_w (dw_or (dt_not (dt_val (de_isi (ty := "tuple") rfl G.f_isinstance rfl G.f_tuple boot_tuple (by decide) (by decide) (dr_var (i := 1))))) (dw_or (dt_cmp (op_neD (rm64 hr)) (by rfl) ok_Ne (dr_of_de (de_cb ok_len (pe_callB call_len (by rfl) G.f_len boot_len (pa_sz (db_cons (dr_var (i := 1)) db_nil))))) (dr_of_de de_int)) (dw_or1 (dt_not (dt_val (de_isi (ty := "str") rfl G.f_isinstance rfl G.f_str boot_str (by decide) (by decide) (dr_ix (rm1 hr) (dr_var (i := 1)) (dr_of_de de_int))))))))) (dss_one (ds_ret de_bl)) dss_nil) (dss_one (ds_ret (de_and (de_cmp (op_inAll (rm65 hr)) (by rfl) ok_In (dr_ix (rm1 hr) (dr_var (i := 1)) (dr_of_de de_int)) (dr_of_de (de_globT rfl G.c_WORDS))) (de_one (c_is_between.de hr (by decide) rfl (da_cons (de_of_dr (dr_ix (rm1 hr) (dr_var (i := 1)) (dr_of_de de_int))) (da_cons de_int (da_cons (de_op op_sub ok_I0 (dr_var (i := 0)) (dr_of_de de_int)) da_nil)))))))))
abbrev N_is_script_value : List Str := [("n" : Str), ("thing" : Str), ("deed" : Str)]
abbrev P_is_script_value : List Str := [("n" : Str), ("thing" : Str)]
theorem sc_is_script_value : FnScope N_is_script_value P_is_script_value (defScope s_is_script_value) := ⟨rfl, rfl, rfl, by decide +kernel, rfl, by decide +kernel, by decide +kernel⟩
def T_is_script_value (S_is_deed_value : FS) : XS := (sRet (xAnd (xIsi (xVarR 1) "tuple") (xCB cAll (xCons (xLC (xSeq (xVarR 1)) (gNm 2) uYes (xCall S_is_deed_value (xCons (xVar 0) (xCons (xVar 2) xNil))) [2]) xNil))))
theorem b_is_script_value {P : Program} {w : World} {K : PySem.W.Frag} {mg : Str → Option Value} {base : Heap} {dn : Dn} {f : Addr}{ S_is_deed_value : FS}  (G : Gs K mg) (c_is_deed_value : Cal P w K mg base dn 3 "is_deed_value" s_is_deed_value P_is_deed_value S_is_deed_value) (cdv : Value) (A : Around) (outer : List Env) (s : Shared) (H : Hp) (E : XK) (B : Bs) (hB : B.dn = dn) (hr : Room 3 (A.deeper (envOfC "is_script_value" (defScope s_is_script_value) s.heap.objs.size f cdv))) : DSs (cxOf CX0 P w K mg base N_is_script_value "is_script_value" (defScope s_is_script_value) f cdv A outer s H E).nox B (defBody s_is_script_value) (T_is_script_value S_is_deed_value) := by
  subst hB
  have nd := sc_is_script_value.nd
  exact (dss_one (ds_ret (de_and (de_isi (ty := "tuple") rfl G.f_isinstance rfl G.f_tuple boot_tuple (by decide) (by decide) (dr_var (i := 1))) (de_one (de_cb ok_all (pe_callB (cr_all rfl) (by rfl) G.f_all boot_all (pa_sz (db_cons (dr_of_de (de_lc (pe_lc (own := [(("deed" : Str), 2)]) rfl nd (dib_seq (dr_var (i := 1))) (blkOk_by (by kernel_rfl)) (fun _ _ _ _ _ => (dg_name (i := 2) nd)) (fun _ _ _ _ _ => dts_nil) (fun _ _ _ _ _ => (c_is_deed_value.de hr (by decide) rfl (da_cons (de_var (i := 0)) (da_cons (de_var (i := 2)) da_nil))))))) db_nil))))))))
abbrev N_need_script : List Str := [("n" : Str), ("script" : Str)]
abbrev P_need_script : List Str := [("n" : Str), ("script" : Str)]
theorem sc_need_script : FnScope N_need_script P_need_script (defScope s_need_script) := ⟨rfl, rfl, rfl, by decide +kernel, rfl, by decide +kernel, by decide +kernel⟩
def T_need_script (S_is_script_value : FS) : XS := (sIf (tNotX (tBl (xCall S_is_script_value (xCons (xVar 0) (xCons (xVar 1) xNil))))) sNever sNext)
theorem b_need_script {P : Program} {w : World} {K : PySem.W.Frag} {mg : Str → Option Value} {base : Heap} {dn : Dn} {f : Addr}{ S_is_script_value : FS}  (G : Gs K mg) (c_is_script_value : Cal P w K mg base dn 4 "is_script_value" s_is_script_value P_is_script_value S_is_script_value) (cdv : Value) (A : Around) (outer : List Env) (s : Shared) (H : Hp) (E : XK) (B : Bs) (hB : B.dn = dn) (hr : Room 4 (A.deeper (envOfC "need_script" (defScope s_need_script) s.heap.objs.size f cdv))) : DSs (cxOf CX0 P w K mg base N_need_script "need_script" (defScope s_need_script) f cdv A outer s H E).nox B (defBody s_need_script) (T_need_script S_is_script_value) := by
  subst hB
  have nd := sc_need_script.nd
  exact (dss_one (ds_if (dt_not (dt_val (c_is_script_value.de hr (by decide) rfl (da_cons (de_var (i := 0)) (da_cons (de_var (i := 1)) da_nil))))) (dss_one ds_never) dss_nil))
abbrev N_left_by : List Str := [("deed" : Str)]
abbrev P_left_by : List Str := [("deed" : Str)]
theorem sc_left_by : FnScope N_left_by P_left_by (defScope s_left_by) := ⟨rfl, rfl, rfl, by decide +kernel, rfl, by decide +kernel, by decide +kernel⟩
def T_left_by : XS := (sRet (xIf (tBl (x2 cEq (xIx (xVarR 0) (xC (.int 0))) (xC (.str ("pour" : Str))))) (xC (.str ("wet" : Str))) (xC (.str ("dry" : Str)))))
theorem b_left_by {P : Program} {w : World} {K : PySem.W.Frag} {mg : Str → Option Value} {base : Heap} {dn : Dn} {f : Addr}  (G : Gs K mg) (cdv : Value) (A : Around) (outer : List Env) (s : Shared) (H : Hp) (E : XK) (B : Bs) (hB : B.dn = dn) (hr : Room 0 (A.deeper (envOfC "left_by" (defScope s_left_by) s.heap.objs.size f cdv))) : DSs (cxOf CX0 P w K mg base N_left_by "left_by" (defScope s_left_by) f cdv A outer s H E).nox B (defBody s_left_by) (T_left_by) := by
  subst hB
  have nd := sc_left_by.nd
  exact (dss_one (ds_ret (de_if (dt_cmp (op_eqD (rm64 hr)) (by rfl) ok_Eq (dr_ix (rm1 hr) (dr_var (i := 0)) (dr_of_de de_int)) (dr_of_de de_str)) (de_globS rfl G.c_WET) (de_globS rfl G.c_DRY))))
abbrev N_does_reach : List Str := [("deed" : Str), ("kind" : Str)]
abbrev P_does_reach : List Str := [("deed" : Str), ("kind" : Str)]
theorem sc_does_reach : FnScope N_does_reach P_does_reach (defScope s_does_reach) := ⟨rfl, rfl, rfl, by decide +kernel, rfl, by decide +kernel, by decide +kernel⟩
def T_does_reach : XS := (sRet (x2 (cIn false) (xIx (xVarR 0) (xC (.int 1))) (xIx (xVarR 1) (xIf (tBl (x2 cEq (xIx (xVarR 0) (xC (.int 0))) (xC (.str ("pour" : Str))))) (xC (.int 1)) (xC (.int 0))))))
theorem b_does_reach {P : Program} {w : World} {K : PySem.W.Frag} {mg : Str → Option Value} {base : Heap} {dn : Dn} {f : Addr}  (G : Gs K mg) (cdv : Value) (A : Around) (outer : List Env) (s : Shared) (H : Hp) (E : XK) (B : Bs) (hB : B.dn = dn) (hr : Room 0 (A.deeper (envOfC "does_reach" (defScope s_does_reach) s.heap.objs.size f cdv))) : DSs (cxOf CX0 P w K mg base N_does_reach "does_reach" (defScope s_does_reach) f cdv A outer s H E).nox B (defBody s_does_reach) (T_does_reach) := by
  subst hB
  have nd := sc_does_reach.nd
  exact (dss_one (ds_ret (de_cmp (op_inAll (rm65 hr)) (by rfl) ok_In (dr_ix (rm1 hr) (dr_var (i := 0)) (dr_of_de de_int)) (dr_ix (rm1 hr) (dr_var (i := 1)) (dr_of_de (de_if (dt_cmp (op_eqD (rm64 hr)) (by rfl) ok_Eq (dr_ix (rm1 hr) (dr_var (i := 0)) (dr_of_de de_int)) (dr_of_de de_str)) de_int de_int))))))
abbrev N_are_allowed : List Str := [("thing" : Str), ("word" : Str), ("one" : Str), ("other" : Str)]
abbrev P_are_allowed : List Str := [("thing" : Str)]
theorem sc_are_allowed : FnScope N_are_allowed P_are_allowed (defScope s_are_allowed) := ⟨rfl, rfl, rfl, by decide +kernel, rfl, by decide +kernel, by decide +kernel⟩
def T_are_allowed : XS := (sSeq (sIf (tOrX (tNotX (tBl (xIsi (xVarR 0) "tuple"))) (tOrX (tBl (x2 cEq (xVarR 0) (xTup xNil))) (tNotX (tBl (xCB cAll (xCons (xLC (xSeq (xVarR 0)) (gNm 1) uYes (xIsi (xVarR 1) "str") [1]) xNil)))))) (sRet (xC (.bool false))) sNext) (sRet (xAnd (xCB cAll (xCons (xLC (xSeq (xVarR 0)) (gNm 1) uYes (x2 (cIn false) (xVarR 1) (xC (.tuple (List.map .str [("dry" : Str), ("kept" : Str), ("wet" : Str)])))) [1]) xNil)) (xCB cAll (xCons (xLC (xZip (xCons (xVarR 0) (xCons (xSl (xVarR 0) (xPart (xC (.int 1))) xNoPart) xNil))) (gTp 2 (gC (gNm 2) (gC (gNm 3) gN0))) uYes (x2 cLtD (xVarR 2) (xVarR 3)) [2, 3]) xNil)))))
theorem b_are_allowed {P : Program} {w : World} {K : PySem.W.Frag} {mg : Str → Option Value} {base : Heap} {dn : Dn} {f : Addr}  (G : Gs K mg) (cdv : Value) (A : Around) (outer : List Env) (s : Shared) (H : Hp) (E : XK) (B : Bs) (hB : B.dn = dn) (hr : Room 0 (A.deeper (envOfC "are_allowed" (defScope s_are_allowed) s.heap.objs.size f cdv))) : DSs (cxOf CX0 P w K mg base N_are_allowed "are_allowed" (defScope s_are_allowed) f cdv A outer s H E).nox B (defBody s_are_allowed) (T_are_allowed) := by
  subst hB
  have nd := sc_are_allowed.nd
  exact (dss_cons (ds_if (dt_w (dw_or (dt_not (dt_val (de_isi (ty := "tuple") rfl G.f_isinstance rfl G.f_tuple boot_tuple (by decide) (by decide) (dr_var (i := 0))))) (dw_or (dt_cmp (op_eqD (rm64 hr)) (by rfl) ok_Eq (dr_var (i := 0)) (dr_of_de (de_tup da_nil))) (dw_or1 (dt_not (dt_val (de_cb ok_all (pe_callB (cr_all rfl) (by rfl) G.f_all boot_all (pa_sz (db_cons (dr_of_de (de_lc (pe_lc (own := [(("word" : Str), 1)]) rfl nd (dib_seq (dr_var (i := 0))) (blkOk_by (by kernel_rfl)) (fun _ _ _ _ _ => (dg_name (i := 1) nd)) (fun _ _ _ _ _ => dts_nil) (fun _ _ _ _ _ => (de_isi (ty := "str") rfl G.f_isinstance rfl G.f_str boot_str (by decide) (by decide) (dr_var (i := 1))))))) db_nil)))))))))) (dss_one (ds_ret de_bl)) dss_nil) (dss_one (ds_ret (de_and (de_cb ok_all (pe_callB (cr_all rfl) (by rfl) G.f_all boot_all (pa_sz (db_cons (dr_of_de (de_lc (pe_lc (own := [(("word" : Str), 1)]) rfl nd (dib_seq (dr_var (i := 0))) (blkOk_by (by kernel_rfl)) (fun _ _ _ _ _ => (dg_name (i := 1) nd)) (fun _ _ _ _ _ => dts_nil) (fun _ _ _ _ _ => (de_cmp (op_inAll (rm65 hr)) (by rfl) ok_In (dr_var (i := 1)) (dr_of_de (de_globT rfl G.c_STANDINGS))))))) db_nil)))) (de_one (de_cb ok_all (pe_callB (cr_all rfl) (by rfl) G.f_all boot_all (pa_sz (db_cons (dr_of_de (de_lc (pe_lc (own := [(("one" : Str), 2), (("other" : Str), 3)]) rfl nd (dib_zip (pi_zipB rfl G.f_zip (db_cons (dr_var (i := 0)) (db_cons (dr_of_de (de_sl (dr_var (i := 0)) (do_some (dr_of_de de_int)) do_none)) db_nil)))) (blkOk_by (by kernel_rfl)) (fun _ _ _ _ _ => (dg_tup rfl (dgs_cons (dg_name (i := 2) nd) (dgs_cons (dg_name (i := 3) nd) dgs_nil)))) (fun _ _ _ _ _ => dts_nil) (fun _ _ _ _ _ => (de_cmp (op_ltD (rm65 hr)) (by rfl) ok_LtD (dr_var (i := 2)) (dr_var (i := 3))))))) db_nil)))))))))
abbrev N_is_ask : List Str := [("closed" : Str), ("thing" : Str)]
abbrev P_is_ask : List Str := [("closed" : Str), ("thing" : Str)]
theorem sc_is_ask : FnScope N_is_ask P_is_ask (defScope s_is_ask) := ⟨rfl, rfl, rfl, by decide +kernel, rfl, by decide +kernel, by decide +kernel⟩
def T_is_ask (S_is_kind_value : FS) (S_are_allowed : FS) : XS := (sSeq (sIf (tOrX (tNotX (tBl (xIsi (xVarR 1) "tuple"))) (tOrX (tBl (x2 cNe (xCB cLen (xCons (xVarR 1) xNil)) (xC (.int 2)))) (tNotX (tBl (xCall S_is_kind_value (xCons (xVar 0) (xCons (xFlat (xIx (xVarR 1) (xC (.int 0)))) xNil))))))) (sRet (xC (.bool false))) sNext) (sRet (xCall S_are_allowed (xCons (xFlat (xIx (xVarR 1) (xC (.int 1)))) xNil))))
theorem b_is_ask {P : Program} {w : World} {K : PySem.W.Frag} {mg : Str → Option Value} {base : Heap} {dn : Dn} {f : Addr}{ S_is_kind_value S_are_allowed : FS}  (G : Gs K mg) (c_is_kind_value : Cal P w K mg base dn 5 "is_kind_value" s_is_kind_value P_is_kind_value S_is_kind_value) (c_are_allowed : Cal P w K mg base dn 1 "are_allowed" s_are_allowed P_are_allowed S_are_allowed) (cdv : Value) (A : Around) (outer : List Env) (s : Shared) (H : Hp) (E : XK) (B : Bs) (hB : B.dn = dn) (hr : Room 5 (A.deeper (envOfC "is_ask" (defScope s_is_ask) s.heap.objs.size f cdv))) : DSs (cxOf CX0 P w K mg base N_is_ask "is_ask" (defScope s_is_ask) f cdv A outer s H E).nox B (defBody s_is_ask) (T_is_ask S_is_kind_value S_are_allowed) := by
  subst hB
  have nd := sc_is_ask.nd
  exact (dss_cons (ds_if (dt_w (dw_or (dt_not (dt_val (de_isi (ty := "tuple") rfl G.f_isinstance rfl G.f_tuple boot_tuple (by decide) (by decide) (dr_var (i := 1))))) (dw_or (dt_cmp (op_neD (rm64 hr)) (by rfl) ok_Ne (dr_of_de (de_cb ok_len (pe_callB call_len (by rfl) G.f_len boot_len (pa_sz (db_cons (dr_var (i := 1)) db_nil))))) (dr_of_de de_int)) (dw_or1 (dt_not (dt_val (c_is_kind_value.de hr (by decide) rfl (da_cons (de_var (i := 0)) (da_cons (de_of_dr (dr_ix (rm1 hr) (dr_var (i := 1)) (dr_of_de de_int))) da_nil))))))))) (dss_one (ds_ret de_bl)) dss_nil) (dss_one (ds_ret (c_are_allowed.de hr (by decide) rfl (da_cons (de_of_dr (dr_ix (rm1 hr) (dr_var (i := 1)) (dr_of_de de_int))) da_nil)))))
abbrev N_are_asks_value : List Str := [("closed" : Str), ("thing" : Str), ("ask" : Str), ("one" : Str), ("other" : Str)]
abbrev P_are_asks_value : List Str := [("closed" : Str), ("thing" : Str)]
theorem sc_are_asks_value : FnScope N_are_asks_value P_are_asks_value (defScope s_are_asks_value) := ⟨rfl, rfl, rfl, by decide +kernel, rfl, by decide +kernel, by decide +kernel⟩
def T_are_asks_value (S_is_ask : FS) : XS := (sSeq (sIf (tOrX (tNotX (tBl (xIsi (xVarR 1) "tuple"))) (tNotX (tBl (xCB cAll (xCons (xLC (xSeq (xVarR 1)) (gNm 2) uYes (xCall S_is_ask (xCons (xVar 0) (xCons (xVar 2) xNil))) [2]) xNil))))) (sRet (xC (.bool false))) sNext) (sRet (xCB cAll (xCons (xLC (xZip (xCons (xVarR 1) (xCons (xSl (xVarR 1) (xPart (xC (.int 1))) xNoPart) xNil))) (gTp 2 (gC (gNm 3) (gC (gNm 4) gN0))) uYes (x2 cLtD (xIx (xVarR 3) (xC (.int 0))) (xIx (xVarR 4) (xC (.int 0)))) [3, 4]) xNil))))
theorem b_are_asks_value {P : Program} {w : World} {K : PySem.W.Frag} {mg : Str → Option Value} {base : Heap} {dn : Dn} {f : Addr}{ S_is_ask : FS}  (G : Gs K mg) (c_is_ask : Cal P w K mg base dn 6 "is_ask" s_is_ask P_is_ask S_is_ask) (cdv : Value) (A : Around) (outer : List Env) (s : Shared) (H : Hp) (E : XK) (B : Bs) (hB : B.dn = dn) (hr : Room 6 (A.deeper (envOfC "are_asks_value" (defScope s_are_asks_value) s.heap.objs.size f cdv))) : DSs (cxOf CX0 P w K mg base N_are_asks_value "are_asks_value" (defScope s_are_asks_value) f cdv A outer s H E).nox B (defBody s_are_asks_value) (T_are_asks_value S_is_ask) := by
  subst hB
  have nd := sc_are_asks_value.nd
  exact (dss_cons (ds_if (dt_w (dw_or (dt_not (dt_val (de_isi (ty := "tuple") rfl G.f_isinstance rfl G.f_tuple boot_tuple (by decide) (by decide) (dr_var (i := 1))))) (dw_or1 (dt_not (dt_val (de_cb ok_all (pe_callB (cr_all rfl) (by rfl) G.f_all boot_all (pa_sz (db_cons (dr_of_de (de_lc (pe_lc (own := [(("ask" : Str), 2)]) rfl nd (dib_seq (dr_var (i := 1))) (blkOk_by (by kernel_rfl)) (fun _ _ _ _ _ => (dg_name (i := 2) nd)) (fun _ _ _ _ _ => dts_nil) (fun _ _ _ _ _ => (c_is_ask.de hr (by decide) rfl (da_cons (de_var (i := 0)) (da_cons (de_var (i := 2)) da_nil))))))) db_nil))))))))) (dss_one (ds_ret de_bl)) dss_nil) (dss_one (ds_ret (de_cb ok_all (pe_callB (cr_all rfl) (by rfl) G.f_all boot_all (pa_sz (db_cons (dr_of_de (de_lc (pe_lc (own := [(("one" : Str), 3), (("other" : Str), 4)]) rfl nd (dib_zip (pi_zipB rfl G.f_zip (db_cons (dr_var (i := 1)) (db_cons (dr_of_de (de_sl (dr_var (i := 1)) (do_some (dr_of_de de_int)) do_none)) db_nil)))) (blkOk_by (by kernel_rfl)) (fun _ _ _ _ _ => (dg_tup rfl (dgs_cons (dg_name (i := 3) nd) (dgs_cons (dg_name (i := 4) nd) dgs_nil)))) (fun _ _ _ _ _ => dts_nil) (fun _ _ _ _ _ => (de_cmp (op_ltD (rm65 hr)) (by rfl) ok_LtD (dr_ix (rm1 hr) (dr_var (i := 3)) (dr_of_de de_int)) (dr_ix (rm1 hr) (dr_var (i := 4)) (dr_of_de de_int))))))) db_nil)))))))
abbrev N_are_met : List Str := [("script_standing" : Str), ("wants" : Str), ("kind" : Str), ("allowed" : Str)]
abbrev P_are_met : List Str := [("script_standing" : Str), ("wants" : Str)]
theorem sc_are_met : FnScope N_are_met P_are_met (defScope s_are_met) := ⟨rfl, rfl, rfl, by decide +kernel, rfl, by decide +kernel, by decide +kernel⟩
def T_are_met (L_script_standing : LamI) (S_script_standing : List D → FS) : XS := (sRet (xCB cAll (xCons (xLC (xSeq (xVarR 1)) (gTp 2 (gC (gNm 2) (gC (gNm 3) gN0))) uYes (x2 (cIn false) (xCallF 0 L_script_standing S_script_standing (xCons (xVar 2) xNil)) (xVarR 3)) [2, 3]) xNil)))
theorem b_are_met {P : Program} {w : World} {K : PySem.W.Frag} {mg : Str → Option Value} {base : Heap} {dn : Dn} {f : Addr}  (G : Gs K mg) (l_script_standing : LamP P w K mg base dn 3 L_script_standing S_script_standing) (cdv : Value) (A : Around) (outer : List Env) (s : Shared) (H : Hp) (E : XK) (B : Bs) (hB : B.dn = dn) (hr : Room 3 (A.deeper (envOfC "are_met" (defScope s_are_met) s.heap.objs.size f cdv))) : DSs (cxOf CX0 P w K mg base N_are_met "are_met" (defScope s_are_met) f cdv A outer s H E).nox B (defBody s_are_met) (T_are_met L_script_standing S_script_standing) := by
  subst hB
  have nd := sc_are_met.nd
  exact (dss_one (ds_ret (de_cb ok_all (pe_callB (cr_all rfl) (by rfl) G.f_all boot_all (pa_sz (db_cons (dr_of_de (de_lc (pe_lc (own := [(("kind" : Str), 2), (("allowed" : Str), 3)]) rfl nd (dib_seq (dr_var (i := 1))) (blkOk_by (by kernel_rfl)) (fun _ _ _ _ _ => (dg_tup rfl (dgs_cons (dg_name (i := 2) nd) (dgs_cons (dg_name (i := 3) nd) dgs_nil)))) (fun _ _ _ _ _ => dts_nil) (fun _ _ _ _ _ => (de_cmp (op_inAll (rm65 hr)) (by rfl) ok_In (dr_of_de (l_script_standing.de (i := 0) hr (by decide) (da_cons (de_var (i := 2)) da_nil))) (dr_var (i := 3))))))) db_nil))))))
abbrev N_need_asks : List Str := [("closed" : Str), ("asks" : Str)]
abbrev P_need_asks : List Str := [("closed" : Str), ("asks" : Str)]
theorem sc_need_asks : FnScope N_need_asks P_need_asks (defScope s_need_asks) := ⟨rfl, rfl, rfl, by decide +kernel, rfl, by decide +kernel, by decide +kernel⟩
def T_need_asks (S_are_asks_value : FS) : XS := (sIf (tNotX (tBl (xCall S_are_asks_value (xCons (xVar 0) (xCons (xVar 1) xNil))))) sNever sNext)
theorem b_need_asks {P : Program} {w : World} {K : PySem.W.Frag} {mg : Str → Option Value} {base : Heap} {dn : Dn} {f : Addr}{ S_are_asks_value : FS}  (G : Gs K mg) (c_are_asks_value : Cal P w K mg base dn 7 "are_asks_value" s_are_asks_value P_are_asks_value S_are_asks_value) (cdv : Value) (A : Around) (outer : List Env) (s : Shared) (H : Hp) (E : XK) (B : Bs) (hB : B.dn = dn) (hr : Room 7 (A.deeper (envOfC "need_asks" (defScope s_need_asks) s.heap.objs.size f cdv))) : DSs (cxOf CX0 P w K mg base N_need_asks "need_asks" (defScope s_need_asks) f cdv A outer s H E).nox B (defBody s_need_asks) (T_need_asks S_are_asks_value) := by
  subst hB
  have nd := sc_need_asks.nd
  exact (dss_one (ds_if (dt_not (dt_val (c_are_asks_value.de hr (by decide) rfl (da_cons (de_var (i := 0)) (da_cons (de_var (i := 1)) da_nil))))) (dss_one ds_never) dss_nil))
abbrev N_does_meet : List Str := [("script" : Str), ("asks" : Str)]
abbrev P_does_meet : List Str := [("script" : Str), ("asks" : Str)]
theorem sc_does_meet : FnScope N_does_meet P_does_meet (defScope s_does_meet) := ⟨rfl, rfl, rfl, by decide +kernel, rfl, by decide +kernel, by decide +kernel⟩
abbrev fr_does_meet_lam : List Str := [("script" : Str)]
def L_does_meet_lam : LamI := lamI (lamArg ((defBody s_does_meet).getD 0 (.Pass ⟨0, 0, 0, 0⟩))) "does_meet.<locals>.<lambda>" fr_does_meet_lam
abbrev N_does_meet_lam : List Str := [("kind" : Str), ("script" : Str)]
abbrev P_does_meet_lam : List Str := [("kind" : Str)]
theorem sc_la_does_meet_lam : NdefX.NScope N_does_meet_lam P_does_meet_lam L_does_meet_lam.fr L_does_meet_lam.scope := NdefX.nscope_by (by decide +kernel)
def T_does_meet_lam (S_standing_of : FS) : XE := (xCall S_standing_of (xCons (xVar 1) (xCons (xFlat (xIx (xVarR 0) (xC (.int 0)))) (xCons (xFlat (xIx (xVarR 0) (xC (.int 1)))) xNil))))
theorem b_does_meet_lam {P : Program} {w : World} {K : PySem.W.Frag} {mg : Str → Option Value} {base : Heap} {dn : Dn}{ S_standing_of : FS} (G : Gs K mg) (c_standing_of : Cal P w K mg base dn 1 "standing_of" s_standing_of P_standing_of S_standing_of) (cl : List (Str × Addr)) (c' f : Addr) (A : Around) (outer : List Env) (s : Shared) (H : Hp) (B : Bs) (hB : B.dn = dn) (hr : Room 1 (A.deeper (NdefX.envF (nfOf L_does_meet_lam cl c') f s.heap.objs.size))) : DE (NdefX.ncx CX0 P w K mg base N_does_meet_lam (nfOf L_does_meet_lam cl c') f A outer s H E0).nox B L_does_meet_lam.body (T_does_meet_lam S_standing_of) := by
  subst hB
  have nd := sc_la_does_meet_lam.nd
  exact (c_standing_of.de hr (by decide) rfl (da_cons (de_var (i := 1)) (da_cons (de_of_dr (dr_ix (rm1 hr) (dr_var (i := 0)) (dr_of_de de_int))) (da_cons (de_of_dr (dr_ix (rm1 hr) (dr_var (i := 0)) (dr_of_de de_int))) da_nil))))
def T_does_meet (S_are_met : FS) : XS := (sRet (xCallL S_are_met L_does_meet_lam [0] (xCons (xVar 1) xNil)))
theorem b_does_meet {P : Program} {w : World} {K : PySem.W.Frag} {mg : Str → Option Value} {base : Heap} {dn : Dn} {f : Addr}{ S_are_met : FS}  (G : Gs K mg) (c_are_met : Cal P w K mg base dn 4 "are_met" s_are_met P_are_met S_are_met) {cc cP : Addr} (TB : LamX.TabB base mg cc cP) (hmT : (cP, ("does_meet.<locals>.<lambda>" : Str)) ∈ dn.tb) (hu : ∀ p ∈ dn.tb, p.1 = cP → p.2 = ("does_meet.<locals>.<lambda>" : Str)) (A : Around) (outer : List Env) (s : Shared) (H : Hp) (E : XK) (B : Bs) (hB : B.dn = dn) (hr : Room 4 (A.deeper (envOfC "does_meet" (defScope s_does_meet) s.heap.objs.size f (.ref cc)))) : DSs (cxOf CX0 P w K mg base N_does_meet "does_meet" (defScope s_does_meet) f (.ref cc) A outer s H E).nox B (defBody s_does_meet) (T_does_meet S_are_met) := by
  subst hB
  have nd := sc_does_meet.nd
  exact (dss_one (ds_ret (c_are_met.deL (fr := fr_does_meet_lam) (js := [0]) hr (by decide) rfl TB rfl hmT hu rfl (NdefX.ndef_free (fr := fr_does_meet_lam) (by kernel_rfl)) (NdefX.ndef_fr (sc := defScope s_does_meet) (by kernel_rfl)) sc_la_does_meet_lam.free rfl (fun _ => rfl) (da_cons (de_var (i := 1)) da_nil))))
abbrev N_meets_asks : List Str := [("book" : Str), ("script" : Str), ("asks" : Str)]
abbrev P_meets_asks : List Str := [("book" : Str), ("script" : Str), ("asks" : Str)]
theorem sc_meets_asks : FnScope N_meets_asks P_meets_asks (defScope s_meets_asks) := ⟨rfl, rfl, rfl, by decide +kernel, rfl, by decide +kernel, by decide +kernel⟩
def T_meets_asks (S_need_book : FS) (S_need_script : FS) (S_need_asks : FS) (S_closing_of : FS) (S_does_meet : FS) : XS := (sSeq (sDrop (xCall S_need_book (xCons (xVar 0) xNil))) (sSeq (sDrop (xCall S_need_script (xCons (xFlat (xIx (xVarR 0) (xC (.int 0)))) (xCons (xVar 1) xNil)))) (sSeq (sDrop (xCall S_need_asks (xCons (xCall S_closing_of (xCons (xVar 0) xNil)) (xCons (xVar 2) xNil)))) (sRet (xCall S_does_meet (xCons (xVar 1) (xCons (xVar 2) xNil)))))))
theorem b_meets_asks {P : Program} {w : World} {K : PySem.W.Frag} {mg : Str → Option Value} {base : Heap} {dn : Dn} {f : Addr}{ S_need_book S_need_script S_need_asks S_closing_of S_does_meet : FS}  (G : Gs K mg) (c_need_book : Cal P w K mg base dn 5 "need_book" s_need_book P_need_book S_need_book) (c_need_script : Cal P w K mg base dn 5 "need_script" s_need_script P_need_script S_need_script) (c_need_asks : Cal P w K mg base dn 8 "need_asks" s_need_asks P_need_asks S_need_asks) (c_closing_of : Cal P w K mg base dn 2 "closing_of" s_closing_of P_closing_of S_closing_of) (c_does_meet : Cal P w K mg base dn 5 "does_meet" s_does_meet P_does_meet S_does_meet) (cdv : Value) (A : Around) (outer : List Env) (s : Shared) (H : Hp) (E : XK) (B : Bs) (hB : B.dn = dn) (hr : Room 8 (A.deeper (envOfC "meets_asks" (defScope s_meets_asks) s.heap.objs.size f cdv))) : DSs (cxOf CX0 P w K mg base N_meets_asks "meets_asks" (defScope s_meets_asks) f cdv A outer s H E).nox B (defBody s_meets_asks) (T_meets_asks S_need_book S_need_script S_need_asks S_closing_of S_does_meet) := by
  subst hB
  have nd := sc_meets_asks.nd
  exact (dss_cons (ds_expr (c_need_book.de hr (by decide) rfl (da_cons (de_var (i := 0)) da_nil))) (dss_cons (ds_expr (c_need_script.de hr (by decide) rfl (da_cons (de_of_dr (dr_ix (rm1 hr) (dr_var (i := 0)) (dr_of_de de_int))) (da_cons (de_var (i := 1)) da_nil)))) (dss_cons (ds_expr (c_need_asks.de hr (by decide) rfl (da_cons (c_closing_of.de hr (by decide) rfl (da_cons (de_var (i := 0)) da_nil)) (da_cons (de_var (i := 2)) da_nil)))) (dss_one (ds_ret (c_does_meet.de hr (by decide) rfl (da_cons (de_var (i := 1)) (da_cons (de_var (i := 2)) da_nil))))))))
abbrev N_reaching : List Str := [("script" : Str), ("kind" : Str), ("at" : Str), ("deed" : Str)]
abbrev P_reaching : List Str := [("script" : Str), ("kind" : Str)]
theorem sc_reaching : FnScope N_reaching P_reaching (defScope s_reaching) := ⟨rfl, rfl, rfl, by decide +kernel, rfl, by decide +kernel, by decide +kernel⟩
def T_reaching (S_does_reach : FS) : XS := (sRet (xLC (xEnum (xCons (xVarR 0) xNil)) (gTp 2 (gC (gNm 2) (gC (gNm 3) gN0))) (tBl (xCall S_does_reach (xCons (xVar 3) (xCons (xVar 1) xNil)))) (xVar 2) [2, 3]))
theorem b_reaching {P : Program} {w : World} {K : PySem.W.Frag} {mg : Str → Option Value} {base : Heap} {dn : Dn} {f : Addr}{ S_does_reach : FS}  (G : Gs K mg) (c_does_reach : Cal P w K mg base dn 1 "does_reach" s_does_reach P_does_reach S_does_reach) (cdv : Value) (A : Around) (outer : List Env) (s : Shared) (H : Hp) (E : XK) (B : Bs) (hB : B.dn = dn) (hr : Room 1 (A.deeper (envOfC "reaching" (defScope s_reaching) s.heap.objs.size f cdv))) : DSs (cxOf CX0 P w K mg base N_reaching "reaching" (defScope s_reaching) f cdv A outer s H E).nox B (defBody s_reaching) (T_reaching S_does_reach) := by
  subst hB
  have nd := sc_reaching.nd
  exact (dss_one (ds_ret (de_lc (pe_lc (own := [(("at" : Str), 2), (("deed" : Str), 3)]) rfl nd (dib_enum (pi_enumB rfl G.f_enumerate (db_cons (dr_var (i := 0)) db_nil))) (blkOk_by (by kernel_rfl)) (fun _ _ _ _ _ => (dg_tup rfl (dgs_cons (dg_name (i := 2) nd) (dgs_cons (dg_name (i := 3) nd) dgs_nil)))) (fun _ _ _ _ _ => (dts_one (dt_val (c_does_reach.de hr (by decide) rfl (da_cons (de_var (i := 3)) (da_cons (de_var (i := 1)) da_nil)))))) (fun _ _ _ _ _ => (de_var (i := 2)))))))
abbrev N_again : List Str := [("script" : Str), ("i" : Str), ("at" : Str)]
abbrev P_again : List Str := [("script" : Str), ("i" : Str), ("at" : Str)]
theorem sc_again : FnScope N_again P_again (defScope s_again) := ⟨rfl, rfl, rfl, by decide +kernel, rfl, by decide +kernel, by decide +kernel⟩
def T_again : XS := (sRet (x2 cAdd (x2 cAdd (xSl (xVarR 0) xNoPart (xPart (xVarR 2))) (xTup (xCons (xFlat (xIx (xVarR 0) (xVarR 1))) xNil))) (xSl (xVarR 0) (xPart (xVarR 2)) xNoPart)))
theorem b_again {P : Program} {w : World} {K : PySem.W.Frag} {mg : Str → Option Value} {base : Heap} {dn : Dn} {f : Addr}  (G : Gs K mg) (cdv : Value) (A : Around) (outer : List Env) (s : Shared) (H : Hp) (E : XK) (B : Bs) (hB : B.dn = dn) (hr : Room 0 (A.deeper (envOfC "again" (defScope s_again) s.heap.objs.size f cdv))) : DSs (cxOf CX0 P w K mg base N_again "again" (defScope s_again) f cdv A outer s H E).nox B (defBody s_again) (T_again) := by
  subst hB
  have nd := sc_again.nd
  exact (dss_one (ds_ret (de_op op_addAll ok_Add (dr_of_de (de_op op_addAll ok_Add (dr_of_de (de_sl (dr_var (i := 0)) do_none (do_some (dr_var (i := 2))))) (dr_of_de (de_tup (da_cons (de_of_dr (dr_ix (rm1 hr) (dr_var (i := 0)) (dr_var (i := 1)))) da_nil))))) (dr_of_de (de_sl (dr_var (i := 0)) (do_some (dr_var (i := 2))) do_none)))))
abbrev N_first_echo : List Str := [("script" : Str), ("asks" : Str), ("kind" : Str), ("allowed" : Str), ("i" : Str)]
abbrev P_first_echo : List Str := [("script" : Str), ("asks" : Str)]
theorem sc_first_echo : FnScope N_first_echo P_first_echo (defScope s_first_echo) := ⟨rfl, rfl, rfl, by decide +kernel, rfl, by decide +kernel, by decide +kernel⟩
def T_first_echo (S_reaching : FS) (S_left_by : FS) : XS := (sSeq (sFor (xSeq (xVar 1)) (gTp 2 (gC (gNm 2) (gC (gNm 3) gN0))) (sFor (xSeq (xCall S_reaching (xCons (xVar 0) (xCons (xVar 2) xNil)))) (gNm 4) (sIf (tBl (x2 (cIn true) (xCall S_left_by (xCons (xFlat (xIx (xVarR 0) (xVarR 4))) xNil)) (xVarR 3))) (sRet (xTup (xCons (xVar 4) (xCons (xCB cLen (xCons (xVarR 0) xNil)) xNil)))) sNext))) (sRet (xC .none)))
theorem b_first_echo {P : Program} {w : World} {K : PySem.W.Frag} {mg : Str → Option Value} {base : Heap} {dn : Dn} {f : Addr}{ S_reaching S_left_by : FS}  (G : Gs K mg) (c_reaching : Cal P w K mg base dn 2 "reaching" s_reaching P_reaching S_reaching) (c_left_by : Cal P w K mg base dn 1 "left_by" s_left_by P_left_by S_left_by) (cdv : Value) (A : Around) (outer : List Env) (s : Shared) (H : Hp) (E : XK) (B : Bs) (hB : B.dn = dn) (hr : Room 2 (A.deeper (envOfC "first_echo" (defScope s_first_echo) s.heap.objs.size f cdv))) : DSs (cxOf CX0 P w K mg base N_first_echo "first_echo" (defScope s_first_echo) f cdv A outer s H E).nox B (defBody s_first_echo) (T_first_echo S_reaching S_left_by) := by
  subst hB
  have nd := sc_first_echo.nd
  exact (dss_cons (ds_for (ps_for PassesOwn.never rfl (dif_seq (de_var (i := 1))) (dg_tup rfl (dgs_cons (dg_name (i := 2) nd) (dgs_cons (dg_name (i := 3) nd) dgs_nil))) (dss_one (ds_for (ps_for PassesOwn.never rfl (dif_seq (c_reaching.de hr (by decide) rfl (da_cons (de_var (i := 0)) (da_cons (de_var (i := 2)) da_nil)))) (dg_name (i := 4) nd) (dss_one (ds_if (dt_cmp (op_notInAll (rm65 hr)) (by rfl) ok_NotIn (dr_of_de (c_left_by.de hr (by decide) rfl (da_cons (de_of_dr (dr_ix (rm1 hr) (dr_var (i := 0)) (dr_var (i := 4)))) da_nil))) (dr_var (i := 3))) (dss_one (ds_ret (de_tup (da_cons (de_var (i := 4)) (da_cons (de_cb ok_len (pe_callB call_len (by rfl) G.f_len boot_len (pa_sz (db_cons (dr_var (i := 0)) db_nil)))) da_nil))))) dss_nil))))))) (dss_one (ds_ret de_non)))
abbrev N_need_question : List Str := [("book" : Str), ("script" : Str), ("asks" : Str)]
abbrev P_need_question : List Str := [("book" : Str), ("script" : Str), ("asks" : Str)]
theorem sc_need_question : FnScope N_need_question P_need_question (defScope s_need_question) := ⟨rfl, rfl, rfl, by decide +kernel, rfl, by decide +kernel, by decide +kernel⟩
def T_need_question (S_need_book : FS) (S_need_script : FS) (S_need_asks : FS) (S_closing_of : FS) (S_does_meet : FS) : XS := (sSeq (sDrop (xCall S_need_book (xCons (xVar 0) xNil))) (sSeq (sDrop (xCall S_need_script (xCons (xFlat (xIx (xVarR 0) (xC (.int 0)))) (xCons (xVar 1) xNil)))) (sSeq (sDrop (xCall S_need_asks (xCons (xCall S_closing_of (xCons (xVar 0) xNil)) (xCons (xVar 2) xNil)))) (sIf (tNotX (tBl (xCall S_does_meet (xCons (xVar 1) (xCons (xVar 2) xNil))))) sNever sNext))))
theorem b_need_question {P : Program} {w : World} {K : PySem.W.Frag} {mg : Str → Option Value} {base : Heap} {dn : Dn} {f : Addr}{ S_need_book S_need_script S_need_asks S_closing_of S_does_meet : FS}  (G : Gs K mg) (c_need_book : Cal P w K mg base dn 5 "need_book" s_need_book P_need_book S_need_book) (c_need_script : Cal P w K mg base dn 5 "need_script" s_need_script P_need_script S_need_script) (c_need_asks : Cal P w K mg base dn 8 "need_asks" s_need_asks P_need_asks S_need_asks) (c_closing_of : Cal P w K mg base dn 2 "closing_of" s_closing_of P_closing_of S_closing_of) (c_does_meet : Cal P w K mg base dn 5 "does_meet" s_does_meet P_does_meet S_does_meet) (cdv : Value) (A : Around) (outer : List Env) (s : Shared) (H : Hp) (E : XK) (B : Bs) (hB : B.dn = dn) (hr : Room 8 (A.deeper (envOfC "need_question" (defScope s_need_question) s.heap.objs.size f cdv))) : DSs (cxOf CX0 P w K mg base N_need_question "need_question" (defScope s_need_question) f cdv A outer s H E).nox B (defBody s_need_question) (T_need_question S_need_book S_need_script S_need_asks S_closing_of S_does_meet) := by
  subst hB
  have nd := sc_need_question.nd
  exact (dss_cons (ds_expr (c_need_book.de hr (by decide) rfl (da_cons (de_var (i := 0)) da_nil))) (dss_cons (ds_expr (c_need_script.de hr (by decide) rfl (da_cons (de_of_dr (dr_ix (rm1 hr) (dr_var (i := 0)) (dr_of_de de_int))) (da_cons (de_var (i := 1)) da_nil)))) (dss_cons (ds_expr (c_need_asks.de hr (by decide) rfl (da_cons (c_closing_of.de hr (by decide) rfl (da_cons (de_var (i := 0)) da_nil)) (da_cons (de_var (i := 2)) da_nil)))) (dss_one (ds_if (dt_not (dt_val (c_does_meet.de hr (by decide) rfl (da_cons (de_var (i := 1)) (da_cons (de_var (i := 2)) da_nil))))) (dss_one ds_never) dss_nil)))))
abbrev N_judge_echo : List Str := [("book" : Str), ("script" : Str), ("asks" : Str), ("found" : Str)]
abbrev P_judge_echo : List Str := [("book" : Str), ("script" : Str), ("asks" : Str)]
theorem sc_judge_echo : FnScope N_judge_echo P_judge_echo (defScope s_judge_echo) := ⟨rfl, rfl, rfl, by decide +kernel, rfl, by decide +kernel, by decide +kernel⟩
def T_judge_echo (S_need_question : FS) (S_first_echo : FS) : XS := (sSeq (sDrop (xCall S_need_question (xCons (xVar 0) (xCons (xVar 1) (xCons (xVar 2) xNil))))) (sSeq (sSet 3 (xCall S_first_echo (xCons (xVar 1) (xCons (xVar 2) xNil)))) (sRet (xIf (tBl (x2 (cIs false) (xVarR 3) (xC .none))) (xTup (xCons (xC (.str ("firm" : Str))) xNil)) (x2 cAdd (xTup (xCons (xC (.str ("echo" : Str))) xNil)) (xVarR 3))))))
theorem b_judge_echo {P : Program} {w : World} {K : PySem.W.Frag} {mg : Str → Option Value} {base : Heap} {dn : Dn} {f : Addr}{ S_need_question S_first_echo : FS}  (G : Gs K mg) (c_need_question : Cal P w K mg base dn 9 "need_question" s_need_question P_need_question S_need_question) (c_first_echo : Cal P w K mg base dn 3 "first_echo" s_first_echo P_first_echo S_first_echo) (cdv : Value) (A : Around) (outer : List Env) (s : Shared) (H : Hp) (E : XK) (B : Bs) (hB : B.dn = dn) (hr : Room 9 (A.deeper (envOfC "judge_echo" (defScope s_judge_echo) s.heap.objs.size f cdv))) : DSs (cxOf CX0 P w K mg base N_judge_echo "judge_echo" (defScope s_judge_echo) f cdv A outer s H E).nox B (defBody s_judge_echo) (T_judge_echo S_need_question S_first_echo) := by
  subst hB
  have nd := sc_judge_echo.nd
  exact (dss_cons (ds_expr (c_need_question.de hr (by decide) rfl (da_cons (de_var (i := 0)) (da_cons (de_var (i := 1)) (da_cons (de_var (i := 2)) da_nil))))) (dss_cons (ds_set (i := 3) nd (c_first_echo.de hr (by decide) rfl (da_cons (de_var (i := 1)) (da_cons (de_var (i := 2)) da_nil)))) (dss_one (ds_ret (de_if (dt_cmp op_isA (by rfl) ok_Is (dr_var (i := 3)) (dr_of_de de_non)) (de_tup (da_cons (de_globS rfl G.c_FIRM) da_nil)) (de_op op_addAll ok_Add (dr_of_de (de_tup (da_cons (de_globS rfl G.c_ECHO) da_nil))) (dr_var (i := 3))))))))
abbrev N_is_echo : List Str := [("script" : Str), ("asks" : Str), ("i" : Str), ("at" : Str)]
abbrev P_is_echo : List Str := [("script" : Str), ("asks" : Str), ("i" : Str), ("at" : Str)]
theorem sc_is_echo : FnScope N_is_echo P_is_echo (defScope s_is_echo) := ⟨rfl, rfl, rfl, by decide +kernel, rfl, by decide +kernel, by decide +kernel⟩
def T_is_echo (S_is_between : FS) (S_does_meet : FS) (S_again : FS) : XS := (sSeq (sIf (tOrX (tNotX (tBl (xCall S_is_between (xCons (xVar 2) (xCons (xC (.int 0)) (xCons (x2 (cI0 fun i j => i - j) (xCB cLen (xCons (xVarR 0) xNil)) (xC (.int 1))) xNil)))))) (tNotX (tBl (xCall S_is_between (xCons (xVar 3) (xCons (x2 cAdd (xVarR 2) (xC (.int 1))) (xCons (xCB cLen (xCons (xVarR 0) xNil)) xNil))))))) (sRet (xC (.bool false))) sNext) (sRet (xNot (xCall S_does_meet (xCons (xCall S_again (xCons (xVar 0) (xCons (xVar 2) (xCons (xVar 3) xNil)))) (xCons (xVar 1) xNil))))))
theorem b_is_echo {P : Program} {w : World} {K : PySem.W.Frag} {mg : Str → Option Value} {base : Heap} {dn : Dn} {f : Addr}{ S_is_between S_does_meet S_again : FS}  (G : Gs K mg) (c_is_between : Cal P w K mg base dn 2 "is_between" s_is_between P_is_between S_is_between) (c_does_meet : Cal P w K mg base dn 5 "does_meet" s_does_meet P_does_meet S_does_meet) (c_again : Cal P w K mg base dn 1 "again" s_again P_again S_again) (cdv : Value) (A : Around) (outer : List Env) (s : Shared) (H : Hp) (E : XK) (B : Bs) (hB : B.dn = dn) (hr : Room 5 (A.deeper (envOfC "is_echo" (defScope s_is_echo) s.heap.objs.size f cdv))) : DSs (cxOf CX0 P w K mg base N_is_echo "is_echo" (defScope s_is_echo) f cdv A outer s H E).nox B (defBody s_is_echo) (T_is_echo S_is_between S_does_meet S_again) := by
  subst hB
  have nd := sc_is_echo.nd
  exact (dss_cons (ds_if (dt_w (dw_or (dt_not (dt_val (c_is_between.de hr (by decide) rfl (da_cons (de_var (i := 2)) (da_cons de_int (da_cons (de_op op_sub ok_I0 (dr_of_de (de_cb ok_len (pe_callB call_len (by rfl) G.f_len boot_len (pa_sz (db_cons (dr_var (i := 0)) db_nil))))) (dr_of_de de_int)) da_nil)))))) (dw_or1 (dt_not (dt_val (c_is_between.de hr (by decide) rfl (da_cons (de_var (i := 3)) (da_cons (de_op op_addAll ok_Add (dr_var (i := 2)) (dr_of_de de_int)) (da_cons (de_cb ok_len (pe_callB call_len (by rfl) G.f_len boot_len (pa_sz (db_cons (dr_var (i := 0)) db_nil)))) da_nil))))))))) (dss_one (ds_ret de_bl)) dss_nil) (dss_one (ds_ret (de_not (c_does_meet.de hr (by decide) rfl (da_cons (c_again.de hr (by decide) rfl (da_cons (de_var (i := 0)) (da_cons (de_var (i := 2)) (da_cons (de_var (i := 3)) da_nil)))) (da_cons (de_var (i := 1)) da_nil)))))))
abbrev N_echo_holds : List Str := [("book" : Str), ("script" : Str), ("asks" : Str), ("thing" : Str)]
abbrev P_echo_holds : List Str := [("book" : Str), ("script" : Str), ("asks" : Str), ("thing" : Str)]
theorem sc_echo_holds : FnScope N_echo_holds P_echo_holds (defScope s_echo_holds) := ⟨rfl, rfl, rfl, by decide +kernel, rfl, by decide +kernel, by decide +kernel⟩
def T_echo_holds (S_need_question : FS) (S_first_echo : FS) (S_is_echo : FS) : XS := (sSeq (sDrop (xCall S_need_question (xCons (xVar 0) (xCons (xVar 1) (xCons (xVar 2) xNil))))) (sSeq (sIf (tOrX (tNotX (tBl (xIsi (xVarR 3) "tuple"))) (tOrX (tBl (x2 cEq (xVarR 3) (xTup xNil))) (tNotX (tBl (xIsi (xIx (xVarR 3) (xC (.int 0))) "str"))))) (sRet (xC (.bool false))) sNext) (sSeq (sIf (tBl (x2 cEq (xIx (xVarR 3) (xC (.int 0))) (xC (.str ("firm" : Str))))) (sRet (xAnd (x2 cEq (xCB cLen (xCons (xVarR 3) xNil)) (xC (.int 1))) (x2 (cIs false) (xCall S_first_echo (xCons (xVar 1) (xCons (xVar 2) xNil))) (xC .none)))) sNext) (sRet (xAnd (x2 cEq (xIx (xVarR 3) (xC (.int 0))) (xC (.str ("echo" : Str)))) (xAnd (x2 cEq (xCB cLen (xCons (xVarR 3) xNil)) (xC (.int 3))) (xCall S_is_echo (xCons (xVar 1) (xCons (xVar 2) (xCons (xFlat (xIx (xVarR 3) (xC (.int 1)))) (xCons (xFlat (xIx (xVarR 3) (xC (.int 2)))) xNil)))))))))))
theorem b_echo_holds {P : Program} {w : World} {K : PySem.W.Frag} {mg : Str → Option Value} {base : Heap} {dn : Dn} {f : Addr}{ S_need_question S_first_echo S_is_echo : FS}  (G : Gs K mg) (c_need_question : Cal P w K mg base dn 9 "need_question" s_need_question P_need_question S_need_question) (c_first_echo : Cal P w K mg base dn 3 "first_echo" s_first_echo P_first_echo S_first_echo) (c_is_echo : Cal P w K mg base dn 6 "is_echo" s_is_echo P_is_echo S_is_echo) (cdv : Value) (A : Around) (outer : List Env) (s : Shared) (H : Hp) (E : XK) (B : Bs) (hB : B.dn = dn) (hr : Room 9 (A.deeper (envOfC "echo_holds" (defScope s_echo_holds) s.heap.objs.size f cdv))) : DSs (cxOf CX0 P w K mg base N_echo_holds "echo_holds" (defScope s_echo_holds) f cdv A outer s H E).nox B (defBody s_echo_holds) (T_echo_holds S_need_question S_first_echo S_is_echo) := by
  subst hB
  have nd := sc_echo_holds.nd
  exact (dss_cons (ds_expr (c_need_question.de hr (by decide) rfl (da_cons (de_var (i := 0)) (da_cons (de_var (i := 1)) (da_cons (de_var (i := 2)) da_nil))))) (dss_cons (ds_if (dt_w (dw_or (dt_not (dt_val (de_isi (ty := "tuple") rfl G.f_isinstance rfl G.f_tuple boot_tuple (by decide) (by decide) (dr_var (i := 3))))) (dw_or (dt_cmp (op_eqD (rm64 hr)) (by rfl) ok_Eq (dr_var (i := 3)) (dr_of_de (de_tup da_nil))) (dw_or1 (dt_not (dt_val (de_isi (ty := "str") rfl G.f_isinstance rfl G.f_str boot_str (by decide) (by decide) (dr_ix (rm1 hr) (dr_var (i := 3)) (dr_of_de de_int))))))))) (dss_one (ds_ret de_bl)) dss_nil) (dss_cons (ds_if (dt_cmp (op_eqD (rm64 hr)) (by rfl) ok_Eq (dr_ix (rm1 hr) (dr_var (i := 3)) (dr_of_de de_int)) (dr_of_de (de_globS rfl G.c_FIRM))) (dss_one (ds_ret (de_and (de_cmp (op_eqD (rm64 hr)) (by rfl) ok_Eq (dr_of_de (de_cb ok_len (pe_callB call_len (by rfl) G.f_len boot_len (pa_sz (db_cons (dr_var (i := 3)) db_nil))))) (dr_of_de de_int)) (de_one (de_cmp op_isA (by rfl) ok_Is (dr_of_de (c_first_echo.de hr (by decide) rfl (da_cons (de_var (i := 1)) (da_cons (de_var (i := 2)) da_nil)))) (dr_of_de de_non)))))) dss_nil) (dss_one (ds_ret (de_and (de_cmp (op_eqD (rm64 hr)) (by rfl) ok_Eq (dr_ix (rm1 hr) (dr_var (i := 3)) (dr_of_de de_int)) (dr_of_de (de_globS rfl G.c_ECHO))) (de_and (de_cmp (op_eqD (rm64 hr)) (by rfl) ok_Eq (dr_of_de (de_cb ok_len (pe_callB call_len (by rfl) G.f_len boot_len (pa_sz (db_cons (dr_var (i := 3)) db_nil))))) (dr_of_de de_int)) (de_one (c_is_echo.de hr (by decide) rfl (da_cons (de_var (i := 1)) (da_cons (de_var (i := 2)) (da_cons (de_of_dr (dr_ix (rm1 hr) (dr_var (i := 3)) (dr_of_de de_int))) (da_cons (de_of_dr (dr_ix (rm1 hr) (dr_var (i := 3)) (dr_of_de de_int))) da_nil)))))))))))))
abbrev N__law_deck : List Str := [("script" : Str), ("salt" : Str), ("mixed" : Str), ("cell" : Str)]
abbrev P__law_deck : List Str := [("script" : Str), ("salt" : Str)]
theorem sc__law_deck : FnScope N__law_deck P__law_deck (defScope s__law_deck) := ⟨rfl, rfl, rfl, by decide +kernel, rfl, by decide +kernel, by decide +kernel⟩
def T__law_deck : XS := (sSeq (sSet 2 (x2 cAdd (xC (.int 16394000)) (xVarR 1))) (sSeq (sFor (xSeq (xSl (xVarR 0) xNoPart (xPart (xC (.int 63))))) (gNm 3) (sSet 2 (x2 (cI (fun _ j => 0 < j) fun i j => i % j) (xCB cInt (xCons (x2 cAdd (x2 cAdd (x2 (cI CMul fun i j => i * j) (xVarR 2) (xC (.int 40692))) (x2 (cI (fun _ j => 0 < j) fun i j => i % j) (xCB cInt (xCons (xVarR 3) xNil)) (xC (.int 2147483399)))) (xC (.int 85))) xNil)) (xC (.int 2147483629))))) (sRet (xDisp [(("cells" : Str), (xRev (xLC (xSeq (xSl (xVarR 0) xNoPart (xPart (xC (.int 63))))) (gNm 3) uYes (xCB cInt (xCons (xVarR 3) xNil)) [3]))), (("mixed" : Str), (xVar 2)), (("turn" : Str), (xC (.int 0)))]))))
theorem b__law_deck {P : Program} {w : World} {K : PySem.W.Frag} {mg : Str → Option Value} {base : Heap} {dn : Dn} {f : Addr}  (G : Gs K mg) (cdv : Value) (A : Around) (outer : List Env) (s : Shared) (H : Hp) (E : XK) (B : Bs) (hB : B.dn = dn) (hr : Room 0 (A.deeper (envOfC "_law_deck" (defScope s__law_deck) s.heap.objs.size f cdv))) : DSs (cxOf CX0 P w K mg base N__law_deck "_law_deck" (defScope s__law_deck) f cdv A outer s H E).nox B (defBody s__law_deck) (T__law_deck) := by
  subst hB
  have nd := sc__law_deck.nd
  exact (dss_cons (ds_set (i := 2) nd (de_op op_addAll ok_Add (dr_of_de de_int) (dr_var (i := 1)))) (dss_cons (ds_for (ps_for PassesOwn.never rfl (dif_seq (de_sl (dr_var (i := 0)) do_none (do_some (dr_of_de de_int)))) (dg_name (i := 3) nd) (dss_one (ds_set (i := 2) nd (de_op op_mod ok_I (dr_of_de (de_cb ok_int (pe_callTy call_int1 (by rfl) G.f_int boot_int (pa_sz (db_cons (dr_of_de (de_op op_addAll ok_Add (dr_of_de (de_op op_addAll ok_Add (dr_of_de (de_op op_mul ok_I (dr_var (i := 2)) (dr_of_de de_int))) (dr_of_de (de_op op_mod ok_I (dr_of_de (de_cb ok_int (pe_callTy call_int1 (by rfl) G.f_int boot_int (pa_sz (db_cons (dr_var (i := 3)) db_nil))))) (dr_of_de de_int))))) (dr_of_de de_int))) db_nil))))) (dr_of_de de_int)))))) (dss_one (ds_ret (de_disp (pps_cons pe_str (de_rev (dr_of_de (de_lc (pe_lc (own := [(("cell" : Str), 3)]) rfl nd (dib_seq (dr_of_de (de_sl (dr_var (i := 0)) do_none (do_some (dr_of_de de_int))))) (blkOk_by (by kernel_rfl)) (fun _ _ _ _ _ => (dg_name (i := 3) nd)) (fun _ _ _ _ _ => dts_nil) (fun _ _ _ _ _ => (de_cb ok_int (pe_callTy call_int1 (by rfl) G.f_int boot_int (pa_sz (db_cons (dr_var (i := 3)) db_nil))))))))) (pps_cons pe_str (de_var (i := 2)) (pps_cons pe_str de_int pps_nil))) (show List.Nodup [("cells" : Str), ("mixed" : Str), ("turn" : Str)] by decide) (show 3 ≤ 15 by decide) rfl rfl (by simp) (show 3 ≤ 15 by decide))))))
abbrev N__law_draw : List Str := [("deck" : Str), ("below" : Str), ("figure" : Str), ("cell" : Str)]
abbrev P__law_draw : List Str := [("deck" : Str), ("below" : Str)]
theorem sc__law_draw : FnScope N__law_draw P__law_draw (defScope s__law_draw) := ⟨rfl, rfl, rfl, by decide +kernel, rfl, by decide +kernel, by decide +kernel⟩
abbrev dkn : Str × Str × Str := ("cells", "mixed", "turn")
theorem ok__law_draw {P : Program} {w : World} {K : PySem.W.Frag} {mg : Str → Option Value} {base : Heap} {tb : List (Addr × Str)} {f : Addr} {fd : FuncData} (F : FnP K "_law_draw" s__law_draw f fd) (G : Gs K mg) : FnOk P w K mg base CX0 1 f fd P__law_draw (spOf K ⟨dkn, tb⟩ S_draw) := by
  have nd := sc__law_draw.nd
  exact F.ok sc__law_draw (fun vs H Q E ⟨F0, da, cs, fp, K', _, _, _, crs, _, _, hS, _⟩ => by rw [crs.length]; exact s_draw_len cs K' hS) (fun cdv A outer s H vs Q E hr h => ⟨t_draw K "cells" "mixed" "turn" 35543 2147483399 69621 85 2147483563 48271 7 2147483629 40692 2147483647, (pss_cons (ps_dput (rm1 hr) (pe_var (i := 0) rfl (by first | exact Or.inl rfl | exact Or.inr (Or.inl rfl) | exact Or.inr (Or.inr rfl))) pe_str (pe_op op_add (pe_dget (rm1 hr) (pe_var (i := 0) rfl (by first | exact Or.inl rfl | exact Or.inr (Or.inl rfl) | exact Or.inr (Or.inr rfl))) pe_str (by intro _ _; rfl)) pe_int) rfl) (pss_cons (ps_set (i := 2) nd rfl (by first | exact Or.inl rfl | exact Or.inr rfl) (pe_op op_add (pe_dget (rm1 hr) (pe_var (i := 0) rfl (by first | exact Or.inl rfl | exact Or.inr (Or.inl rfl) | exact Or.inr (Or.inr rfl))) pe_str (by intro _ _; rfl)) (pe_op op_mul pe_int (pe_dget (rm1 hr) (pe_var (i := 0) rfl (by first | exact Or.inl rfl | exact Or.inr (Or.inl rfl) | exact Or.inr (Or.inr rfl))) pe_str (by intro _ _; rfl))))) (pss_cons (ps_if (pt_cmpR (op_neD (rm64 hr)) (pe_dget (rm1 hr) (pe_var (i := 0) rfl (by first | exact Or.inl rfl | exact Or.inr (Or.inl rfl) | exact Or.inr (Or.inr rfl))) pe_str (by intro _ _; rfl)) (pe_lst pa_nil) (by rfl)) (pss_cons (ps_set (i := 3) nd rfl (by first | exact Or.inl rfl | exact Or.inr rfl) (pe_bm0 PySem.F.plainAttrs_list PySem.F.slot_list_pop PySem.F.type_list_pop mt_pop (pe_dget (rm1 hr) (pe_var (i := 0) rfl (by first | exact Or.inl rfl | exact Or.inr (Or.inl rfl) | exact Or.inr (Or.inr rfl))) pe_str (by intro _ _; rfl)))) (pss_cons (ps_if (pt_cmpR op_ge (pe_var (i := 3) rfl (by first | exact Or.inl rfl | exact Or.inr (Or.inl rfl) | exact Or.inr (Or.inr rfl))) (pe_op op_pow pe_int pe_int) (by rfl)) (pss_cons (ps_expr (pe_bm PySem.F.plainAttrs_list PySem.F.slot_list_append PySem.F.type_list_append mt_append (pe_dget (rm1 hr) (pe_var (i := 0) rfl (by first | exact Or.inl rfl | exact Or.inr (Or.inl rfl) | exact Or.inr (Or.inr rfl))) pe_str (by intro _ _; rfl)) (pa_cons (pe_op op_fdivW (pe_var (i := 3) rfl (by first | exact Or.inl rfl | exact Or.inr (Or.inl rfl) | exact Or.inr (Or.inr rfl))) (pe_callB (call_max2 rfl) (by rfl) G.f_max boot_max (pa_cons pe_int (pa_cons (pe_var (i := 1) rfl (by first | exact Or.inl rfl | exact Or.inr (Or.inl rfl) | exact Or.inr (Or.inr rfl))) pa_nil)))) pa_nil))) (pss_one (ps_ret (pe_op op_mod (pe_callTy call_int1 (by rfl) G.f_int boot_int (pa_cons (pe_var (i := 3) rfl (by first | exact Or.inl rfl | exact Or.inr (Or.inl rfl) | exact Or.inr (Or.inr rfl))) pa_nil)) (pe_var (i := 1) rfl (by first | exact Or.inl rfl | exact Or.inr (Or.inl rfl) | exact Or.inr (Or.inr rfl))))))) pss_nil) (pss_one (ps_set (i := 2) nd rfl (by first | exact Or.inl rfl | exact Or.inr rfl) (pe_op op_add (pe_var (i := 2) rfl (by first | exact Or.inl rfl | exact Or.inr (Or.inl rfl) | exact Or.inr (Or.inr rfl))) (pe_op op_mod (pe_callTy call_int1 (by rfl) G.f_int boot_int (pa_cons (pe_var (i := 3) rfl (by first | exact Or.inl rfl | exact Or.inr (Or.inl rfl) | exact Or.inr (Or.inr rfl))) pa_nil)) pe_int)))))) pss_nil) (pss_cons (ps_set (i := 2) nd rfl (by first | exact Or.inl rfl | exact Or.inr rfl) (pe_op op_mod (pe_callTy call_int1 (by rfl) G.f_int boot_int (pa_cons (pe_op op_add (pe_op op_mul (pe_var (i := 2) rfl (by first | exact Or.inl rfl | exact Or.inr (Or.inl rfl) | exact Or.inr (Or.inr rfl))) pe_int) pe_int) pa_nil)) pe_int)) (pss_cons (ps_set (i := 2) nd rfl (by first | exact Or.inl rfl | exact Or.inr rfl) (pe_op op_mod (pe_callTy call_int1 (by rfl) G.f_int boot_int (pa_cons (pe_op op_add (pe_op op_add (pe_op op_mul (pe_var (i := 2) rfl (by first | exact Or.inl rfl | exact Or.inr (Or.inl rfl) | exact Or.inr (Or.inr rfl))) (pe_var (i := 2) rfl (by first | exact Or.inl rfl | exact Or.inr (Or.inl rfl) | exact Or.inr (Or.inr rfl)))) (pe_op op_mul pe_int (pe_dget (rm1 hr) (pe_var (i := 0) rfl (by first | exact Or.inl rfl | exact Or.inr (Or.inl rfl) | exact Or.inr (Or.inr rfl))) pe_str (by intro _ _; rfl)))) pe_int) pa_nil)) pe_int)) (pss_cons (ps_set (i := 2) nd rfl (by first | exact Or.inl rfl | exact Or.inr rfl) (pe_op op_mod (pe_callTy call_int1 (by rfl) G.f_int boot_int (pa_cons (pe_op op_mul (pe_var (i := 2) rfl (by first | exact Or.inl rfl | exact Or.inr (Or.inl rfl) | exact Or.inr (Or.inr rfl))) pe_int) pa_nil)) pe_int)) (pss_one (ps_ret (pe_op op_mod (pe_callTy call_int1 (by rfl) G.f_int boot_int (pa_cons (pe_op op_fdivW (pe_var (i := 2) rfl (by first | exact Or.inl rfl | exact Or.inr (Or.inl rfl) | exact Or.inr (Or.inr rfl))) pe_int) pa_nil)) (pe_var (i := 1) rfl (by first | exact Or.inl rfl | exact Or.inr (Or.inl rfl) | exact Or.inr (Or.inr rfl)))))))))))), draw_main (by decide) (by decide) (by decide) (by unfold drawB; decide) tb vs H Q h⟩)
abbrev N__law_pick : List Str := [("deck" : Str), ("some" : Str)]
abbrev P__law_pick : List Str := [("deck" : Str), ("some" : Str)]
theorem sc__law_pick : FnScope N__law_pick P__law_pick (defScope s__law_pick) := ⟨rfl, rfl, rfl, by decide +kernel, rfl, by decide +kernel, by decide +kernel⟩
def T__law_pick (S__law_draw : FS) : XS := (sRet (xFlat (xIx (xVarR 1) (xCall S__law_draw (xCons (xVar 0) (xCons (xCB cLen (xCons (xVarR 1) xNil)) xNil))))))
theorem b__law_pick {P : Program} {w : World} {K : PySem.W.Frag} {mg : Str → Option Value} {base : Heap} {dn : Dn} {f : Addr}{ S__law_draw : FS}  (G : Gs K mg) (c__law_draw : Cal P w K mg base dn 1 "_law_draw" s__law_draw P__law_draw S__law_draw) (cdv : Value) (A : Around) (outer : List Env) (s : Shared) (H : Hp) (E : XK) (B : Bs) (hB : B.dn = dn) (hr : Room 1 (A.deeper (envOfC "_law_pick" (defScope s__law_pick) s.heap.objs.size f cdv))) : DSs (cxOf CX0 P w K mg base N__law_pick "_law_pick" (defScope s__law_pick) f cdv A outer s H E).nox B (defBody s__law_pick) (T__law_pick S__law_draw) := by
  subst hB
  have nd := sc__law_pick.nd
  exact (dss_one (ds_ret (de_of_dr (dr_ix (rm1 hr) (dr_var (i := 1)) (dr_of_de (c__law_draw.de hr (by decide) rfl (da_cons (de_var (i := 0)) (da_cons (de_cb ok_len (pe_callB call_len (by rfl) G.f_len boot_len (pa_sz (db_cons (dr_var (i := 1)) db_nil)))) da_nil))))))))
abbrev N__law_same : List Str := [("one" : Str), ("due" : Str), ("a" : Str), ("b" : Str)]
abbrev P__law_same : List Str := [("one" : Str), ("due" : Str)]
theorem sc__law_same : FnScope N__law_same P__law_same (defScope s__law_same) := ⟨rfl, rfl, rfl, by decide +kernel, rfl, by decide +kernel, by decide +kernel⟩
def T__law_same (S__law_same : FS) : XS := (sSeq (sIf (tBl (xIsi (xVarR 1) "tuple")) (sSeq (sIf (tOrX (tNotX (tBl (xIsi (xVarR 0) "tuple"))) (tBl (x2 cNe (xCB cLen (xCons (xVarR 0) xNil)) (xCB cLen (xCons (xVarR 1) xNil))))) (sRet (xC (.bool false))) sNext) (sRet (x2 cEq (xLC (xZip (xCons (xVarR 0) (xCons (xVarR 1) xNil))) (gTp 2 (gC (gNm 2) (gC (gNm 3) gN0))) (tNotX (tBl (xCall S__law_same (xCons (xVar 2) (xCons (xVar 3) xNil))))) (xC (.int 1)) [2, 3]) (xLst xNil)))) sNext) (sSeq (sIf (tBl (x2 (cIs false) (xVarR 1) (xC .none))) (sRet (x2 (cIs false) (xVarR 0) (xC .none))) sNext) (sSeq (sIf (tOrX (tBl (x2 (cIs false) (xVarR 1) (xC (.bool true)))) (tBl (x2 (cIs false) (xVarR 1) (xC (.bool false))))) (sRet (xAnd (xIsi (xVarR 0) "bool") (x2 cEq (xVarR 0) (xVarR 1)))) sNext) (sSeq (sIf (tBl (xIsi (xVarR 1) "str")) (sRet (xAnd (xIsi (xVarR 0) "str") (x2 cEq (xVarR 0) (xVarR 1)))) sNext) (sRet (xAnd (xIsi (xVarR 0) "int") (xAnd (xNot (xIsi (xVarR 0) "bool")) (x2 cEq (xVarR 0) (xVarR 1)))))))))
theorem b__law_same {P : Program} {w : World} {K : PySem.W.Frag} {mg : Str → Option Value} {base : Heap} {dn : Dn} {f : Addr}{ S__law_same : FS}  {lvr : Nat} (hlv : 0 ≤ lvr) (G : Gs K mg) (c__law_same : Cal P w K mg base dn lvr "_law_same" s__law_same P__law_same S__law_same) (cdv : Value) (A : Around) (outer : List Env) (s : Shared) (H : Hp) (E : XK) (B : Bs) (hB : B.dn = dn) (hr : Room lvr (A.deeper (envOfC "_law_same" (defScope s__law_same) s.heap.objs.size f cdv))) : DSs (cxOf CX0 P w K mg base N__law_same "_law_same" (defScope s__law_same) f cdv A outer s H E).nox B (defBody s__law_same) (T__law_same S__law_same) := by
  subst hB
  have nd := sc__law_same.nd
  exact (dss_cons (ds_if (dt_val (de_isi (ty := "tuple") rfl G.f_isinstance rfl G.f_tuple boot_tuple (by decide) (by decide) (dr_var (i := 1)))) (dss_cons (ds_if (dt_w (dw_or (dt_not (dt_val (de_isi (ty := "tuple") rfl G.f_isinstance rfl G.f_tuple boot_tuple (by decide) (by decide) (dr_var (i := 0))))) (dw_or1 (dt_cmp (op_neD (rm64 hr)) (by rfl) ok_Ne (dr_of_de (de_cb ok_len (pe_callB call_len (by rfl) G.f_len boot_len (pa_sz (db_cons (dr_var (i := 0)) db_nil))))) (dr_of_de (de_cb ok_len (pe_callB call_len (by rfl) G.f_len boot_len (pa_sz (db_cons (dr_var (i := 1)) db_nil))))))))) (dss_one (ds_ret de_bl)) dss_nil) (dss_one (ds_ret (de_cmp (op_eqD (rm64 hr)) (by rfl) ok_Eq (dr_of_de (de_lc (pe_lc (own := [(("a" : Str), 2), (("b" : Str), 3)]) rfl nd (dib_zip (pi_zipB rfl G.f_zip (db_cons (dr_var (i := 0)) (db_cons (dr_var (i := 1)) db_nil)))) (blkOk_by (by kernel_rfl)) (fun _ _ _ _ _ => (dg_tup rfl (dgs_cons (dg_name (i := 2) nd) (dgs_cons (dg_name (i := 3) nd) dgs_nil)))) (fun _ _ _ _ _ => (dts_one (dt_not (dt_val (c__law_same.de hr (by omega) rfl (da_cons (de_var (i := 2)) (da_cons (de_var (i := 3)) da_nil))))))) (fun _ _ _ _ _ => de_int)))) (dr_of_de (de_lst da_nil)))))) dss_nil) (dss_cons (ds_if (dt_cmp op_isA (by rfl) ok_Is (dr_var (i := 1)) (dr_of_de de_non)) (dss_one (ds_ret (de_cmp op_isA (by rfl) ok_Is (dr_var (i := 0)) (dr_of_de de_non)))) dss_nil) (dss_cons (ds_if (dt_w (dw_or (dt_cmp op_isA (by rfl) ok_Is (dr_var (i := 1)) (dr_of_de de_bl)) (dw_or1 (dt_cmp op_isA (by rfl) ok_Is (dr_var (i := 1)) (dr_of_de de_bl))))) (dss_one (ds_ret (de_and (de_isi (ty := "bool") rfl G.f_isinstance rfl G.f_bool boot_bool (by decide) (by decide) (dr_var (i := 0))) (de_one (de_cmp (op_eqD (rm64 hr)) (by rfl) ok_Eq (dr_var (i := 0)) (dr_var (i := 1))))))) dss_nil) (dss_cons (ds_if (dt_val (de_isi (ty := "str") rfl G.f_isinstance rfl G.f_str boot_str (by decide) (by decide) (dr_var (i := 1)))) (dss_one (ds_ret (de_and (de_isi (ty := "str") rfl G.f_isinstance rfl G.f_str boot_str (by decide) (by decide) (dr_var (i := 0))) (de_one (de_cmp (op_eqD (rm64 hr)) (by rfl) ok_Eq (dr_var (i := 0)) (dr_var (i := 1))))))) dss_nil) (dss_one (ds_ret (de_and (de_isi (ty := "int") rfl G.f_isinstance rfl G.f_int boot_int (by decide) (by decide) (dr_var (i := 0))) (de_and (de_not (de_isi (ty := "bool") rfl G.f_isinstance rfl G.f_bool boot_bool (by decide) (by decide) (dr_var (i := 0)))) (de_one (de_cmp (op_eqD (rm64 hr)) (by rfl) ok_Eq (dr_var (i := 0)) (dr_var (i := 1))))))))))))
abbrev N__law_book : List Str := [("deck" : Str), ("sizes" : Str), ("n" : Str), ("share" : Str), ("pairs" : Str), ("a" : Str), ("b" : Str)]
abbrev P__law_book : List Str := [("deck" : Str), ("sizes" : Str)]
theorem sc__law_book : FnScope N__law_book P__law_book (defScope s__law_book) := ⟨rfl, rfl, rfl, by decide +kernel, rfl, by decide +kernel, by decide +kernel⟩
def T__law_book (S__law_pick : FS) (S__law_draw : FS) : XS := (sSeq (sFz [1] (sSet 2 (xCall S__law_pick (xCons (xVar 0) (xCons (xVar 1) xNil))))) (sSeq (sPar [3, 4] (xCons (xCall S__law_draw (xCons (xVar 0) (xCons (xC (.int 5)) xNil))) (xCons (xLst xNil) xNil))) (sSeq (sFor (xRange1 (xCons (xVarR 2) xNil)) (gNm 5) (sExt 4 (xLC (xRange1 (xCons (xVarR 2) xNil)) (gNm 6) (tAndX (tBl (x2 cNe (xVarR 5) (xVarR 6))) (tBl (x2 (cB0 fun i j => decide (i < j)) (xCall S__law_draw (xCons (xVar 0) (xCons (xC (.int 7)) xNil))) (xVarR 3)))) (xTup (xCons (xVar 5) (xCons (xVar 6) xNil))) [6]))) (sRet (xTup (xCons (xVar 2) (xCons (xCB cTup (xCons (xVarR 4) xNil)) xNil)))))))
theorem b__law_book {P : Program} {w : World} {K : PySem.W.Frag} {mg : Str → Option Value} {base : Heap} {dn : Dn} {f : Addr}{ S__law_pick S__law_draw : FS}  (G : Gs K mg) (c__law_pick : Cal P w K mg base dn 2 "_law_pick" s__law_pick P__law_pick S__law_pick) (c__law_draw : Cal P w K mg base dn 1 "_law_draw" s__law_draw P__law_draw S__law_draw) (cdv : Value) (A : Around) (outer : List Env) (s : Shared) (H : Hp) (E : XK) (B : Bs) (hB : B.dn = dn) (hr : Room 2 (A.deeper (envOfC "_law_book" (defScope s__law_book) s.heap.objs.size f cdv))) : DSs (cxOf CX0 P w K mg base N__law_book "_law_book" (defScope s__law_book) f cdv A outer s H E).nox B (defBody s__law_book) (T__law_book S__law_pick S__law_draw) := by
  subst hB
  have nd := sc__law_book.nd
  exact (dss_cons (ds_fz [1] (ds_set (i := 2) nd (c__law_pick.de hr (by decide) rfl (da_cons (de_var (i := 0)) (da_cons (de_var (i := 1)) da_nil))))) (dss_cons (ds_parN (is := [3, 4]) (n := 2) (ps_asg (pe_tup (da_cons (c__law_draw.de hr (by decide) rfl (da_cons (de_var (i := 0)) (da_cons de_int da_nil))) (da_cons (de_lst da_nil) da_nil))) (pg_tup rfl (pgs_cons (pg_name (i := 3) nd rfl (by first | exact Or.inl rfl | exact Or.inr rfl)) (pgs_cons (pg_name (i := 4) nd rfl (by first | exact Or.inl rfl | exact Or.inr rfl)) pgs_nil))))) (dss_cons (ds_for (ps_for PassesOwn.never rfl (dif_range1 (pi_range1 rfl G.f_range (db_cons (dr_var (i := 2)) db_nil))) (dg_name (i := 5) nd) (dss_one (ds_ext (ps_expr (pe_bm PySem.F.plainAttrs_list PySem.F.slot_list_extend PySem.F.type_list_extend mt_extend (pe_var (i := 4) rfl (by first | exact Or.inl rfl | exact Or.inr (Or.inl rfl) | exact Or.inr (Or.inr rfl))) (pa_cons (de_lc (pe_lc (own := [(("b" : Str), 6)]) rfl nd (dib_of (dif_range1 (pi_range1 rfl G.f_range (db_cons (dr_var (i := 2)) db_nil)))) (blkOk_by (by kernel_rfl)) (fun _ _ _ _ _ => (dg_name (i := 6) nd)) (fun _ _ _ _ _ => (dts_one (dt_w (dw_and (dt_cmp (op_neD (rm64 hr)) (by rfl) ok_Ne (dr_var (i := 5)) (dr_var (i := 6))) (dw_and1 (dt_cmp op_lt (by rfl) ok_B0 (dr_of_de (c__law_draw.de hr (by decide) rfl (da_cons (de_var (i := 0)) (da_cons de_int da_nil)))) (dr_var (i := 3)))))))) (fun _ _ _ _ _ => (de_tup (da_cons (de_var (i := 5)) (da_cons (de_var (i := 6)) da_nil)))))) pa_nil))))))) (dss_one (ds_ret (de_tup (da_cons (de_var (i := 2)) (da_cons (de_cb ok_tup (pe_callTy call_tuple_of (by rfl) G.f_tuple boot_tuple (pa_sz (db_cons (dr_var (i := 4)) db_nil)))) da_nil))))))))
abbrev N__law_world : List Str := [("book" : Str), ("n" : Str), ("kinds" : Str), ("lots" : Str), ("reach" : Str), ("near" : Str), ("mid" : Str), ("a" : Str), ("downs" : Str), ("ups" : Str), ("bits" : Str), ("lot" : Str), ("below" : Str), ("x" : Str), ("least" : Str), ("b" : Str), ("y" : Str), ("k" : Str), ("kind" : Str)]
abbrev P__law_world : List Str := [("book" : Str)]
theorem sc__law_world : FnScope N__law_world P__law_world (defScope s__law_world) := ⟨rfl, rfl, rfl, by decide +kernel, rfl, by decide +kernel, by decide +kernel⟩
def T__law_world : XS := (sSeq (sPar [1, 2, 3, 4] (xCons (xFlat (xIx (xVarR 0) (xC (.int 0)))) (xCons (xLst xNil) (xCons (xLst xNil) (xCons xDNewT xNil))))) (sSeq (sSet 5 (xLC (xRange1 (xCons (xVarR 1) xNil)) (gNm 7) uYes (xLC (xRange1 (xCons (xVarR 1) xNil)) (gNm 15) uYes (xOr (x2 cEq (xVarR 7) (xVarR 15)) (x2 (cIn false) (xTup (xCons (xVar 7) (xCons (xVar 15) xNil))) (xIx (xVarR 0) (xC (.int 1))))) [15]) [7])) (sSeq (sFor (xRange1 (xCons (xVarR 1) xNil)) (gNm 6) (sFor (xRange1 (xCons (xVarR 1) xNil)) (gNm 7) (sIf (tTru (xIx (xIx (xVarR 5) (xVarR 7)) (xVarR 6))) (sSetIx 5 (xVarR 7) (xLC (xZip (xCons (xIx (xVarR 5) (xVarR 7)) (xCons (xIx (xVarR 5) (xVarR 6)) xNil))) (gTp 2 (gC (gNm 13) (gC (gNm 16) gN0))) uYes (xOr (xVar 13) (xVar 16)) [13, 16])) sNext))) (sSeq (sSet 8 (xLC (xRange1 (xCons (xVarR 1) xNil)) (gNm 13) uYes (xCB cTup (xCons (xLC (xRange1 (xCons (xVarR 1) xNil)) (gNm 7) (tTru (xIx (xIx (xVarR 5) (xVarR 7)) (xVarR 13))) (xVar 7) [7]) xNil)) [13])) (sSeq (sSet 9 (xLC (xRange1 (xCons (xVarR 1) xNil)) (gNm 13) uYes (xCB cTup (xCons (xLC (xRange1 (xCons (xVarR 1) xNil)) (gNm 15) (tTru (xIx (xIx (xVarR 5) (xVarR 13)) (xVarR 15))) (xVar 15) [15]) xNil)) [13])) (sSeq (sFor (xRange1 (xCons (x2 (cI CPow fun i j => i * 2 ^ j.toNat) (xC (.int 1)) (xVarR 1)) xNil)) (gNm 10) (sSeq (sSet 11 (xCB cTup (xCons (xLC (xRange1 (xCons (xVarR 1) xNil)) (gNm 13) (tTru (x2 (cI0 Builtin.bitAnd) (x2 (cI (fun _ j => 0 ≤ j) fun i j => i / 2 ^ j.toNat) (xVarR 10) (xVarR 13)) (xC (.int 1)))) (xVar 13) [13]) xNil))) (sIf (tBl (x2 cEq (xLC (xSeq (xVarR 11)) (gNm 13) (tBl (x2 cNe (xLC (xSeq (xIx (xVarR 8) (xVarR 13))) (gNm 7) (tBl (x2 (cIn true) (xVarR 7) (xVarR 11))) (xC (.int 1)) [7]) (xLst xNil))) (xC (.int 1)) [13]) (xLst xNil))) (sApp 3 (xVar 11)) sNext))) (sSeq (sFz [3] (sFor (xSeq (xVar 3)) (gNm 12) (sExt 2 (xLC (xSeq (xVarR 3)) (gNm 11) uYes (xTup (xCons (xVar 12) (xCons (xCB cTup (xCons (xLC (xRange1 (xCons (xVarR 1) xNil)) (gNm 13) (tBl (x2 (cIn true) (xVarR 13) (xVarR 11))) (xVar 13) [13]) xNil)) xNil))) [11])))) (sSeq (sSet 2 (xCB cSorted (xCons (xVarR 2) xNil))) (sSeq (sFor (xRange1 (xCons (xVarR 1) xNil)) (gNm 13) (sSeq (sDPutT 4 (xCons (xC (.str ("pour" : Str))) (xCons (xVar 13) xNil)) (xCB cSum (xCons (xLC (xEnum (xCons (xVarR 2) xNil)) (gTp 2 (gC (gNm 17) (gC (gNm 18) gN0))) (tBl (x2 (cIn false) (xVarR 13) (xIx (xVarR 18) (xC (.int 1))))) (x2 (cI CPow fun i j => i * 2 ^ j.toNat) (xC (.int 1)) (xVarR 17)) [17, 18]) xNil))) (sDPutT 4 (xCons (xC (.str ("open" : Str))) (xCons (xVar 13) xNil)) (xCB cSum (xCons (xLC (xEnum (xCons (xVarR 2) xNil)) (gTp 2 (gC (gNm 17) (gC (gNm 18) gN0))) (tBl (x2 (cIn false) (xVarR 13) (xIx (xVarR 18) (xC (.int 0))))) (x2 (cI CPow fun i j => i * 2 ^ j.toNat) (xC (.int 1)) (xVarR 17)) [17, 18]) xNil))))) (sSeq (sSet 14 (xLC (xRange1 (xCons (xVarR 1) xNil)) (gNm 13) uYes (xCB cMinL (xCons (xLC (xSeq (xIx (xVarR 8) (xVarR 13))) (gNm 7) (tBl (x2 (cIn false) (xVarR 7) (xIx (xVarR 9) (xVarR 13)))) (xVar 7) [7]) xNil)) [13])) (sFz [2, 4, 8, 9, 14] (sRet (xDisp [(("book" : Str), (xVar 0)), (("n" : Str), (xVar 1)), (("kinds" : Str), (xVar 2)), (("reach" : Str), (xVar 4)), (("downs" : Str), (xVar 8)), (("ups" : Str), (xVar 9)), (("least" : Str), (xVar 14))])))))))))))))
theorem b__law_world {P : Program} {w : World} {K : PySem.W.Frag} {mg : Str → Option Value} {base : Heap} {dn : Dn} {f : Addr}  (G : Gs K mg) (cdv : Value) (A : Around) (outer : List Env) (s : Shared) (H : Hp) (E : XK) (B : Bs) (hB : B.dn = dn) (hr : Room 0 (A.deeper (envOfC "_law_world" (defScope s__law_world) s.heap.objs.size f cdv))) : DSs (cxOf CX0 P w K mg base N__law_world "_law_world" (defScope s__law_world) f cdv A outer s H E).nox B (defBody s__law_world) (T__law_world) := by
  subst hB
  have nd := sc__law_world.nd
  exact (dss_cons (ds_parN (is := [1, 2, 3, 4]) (n := 4) (ps_asg (pe_tup (da_cons (de_of_dr (dr_ix (rm1 hr) (dr_var (i := 0)) (dr_of_de de_int))) (da_cons (de_lst da_nil) (da_cons (de_lst da_nil) (da_cons de_dnewT da_nil))))) (pg_tup rfl (pgs_cons (pg_name (i := 1) nd rfl (by first | exact Or.inl rfl | exact Or.inr rfl)) (pgs_cons (pg_name (i := 2) nd rfl (by first | exact Or.inl rfl | exact Or.inr rfl)) (pgs_cons (pg_name (i := 3) nd rfl (by first | exact Or.inl rfl | exact Or.inr rfl)) (pgs_cons (pg_name (i := 4) nd rfl (by first | exact Or.inl rfl | exact Or.inr rfl)) pgs_nil))))))) (dss_cons (ds_set (i := 5) nd (de_lc (pe_lc (own := [(("a" : Str), 7)]) rfl nd (dib_of (dif_range1 (pi_range1 rfl G.f_range (db_cons (dr_var (i := 1)) db_nil)))) (blkOk_by (by kernel_rfl)) (fun _ _ _ _ _ => (dg_name (i := 7) nd)) (fun _ _ _ _ _ => dts_nil) (fun _ _ _ _ _ => (de_lc (pe_lc (own := [(("b" : Str), 15)]) rfl nd (dib_of (dif_range1 (pi_range1 rfl G.f_range (db_cons (dr_var (i := 1)) db_nil)))) (blkOk_by (by kernel_rfl)) (fun _ _ _ _ _ => (dg_name (i := 15) nd)) (fun _ _ _ _ _ => dts_nil) (fun _ _ _ _ _ => (de_or (de_cmp (op_eqD (rm64 hr)) (by rfl) ok_Eq (dr_var (i := 7)) (dr_var (i := 15))) (de_one (de_cmp (op_inAll (rm65 hr)) (by rfl) ok_In (dr_of_de (de_tup (da_cons (de_var (i := 7)) (da_cons (de_var (i := 15)) da_nil)))) (dr_ix (rm1 hr) (dr_var (i := 0)) (dr_of_de de_int)))))))))))) (dss_cons (ds_for (ps_for PassesOwn.never rfl (dif_range1 (pi_range1 rfl G.f_range (db_cons (dr_var (i := 1)) db_nil))) (dg_name (i := 6) nd) (dss_one (ds_for (ps_for PassesOwn.never rfl (dif_range1 (pi_range1 rfl G.f_range (db_cons (dr_var (i := 1)) db_nil))) (dg_name (i := 7) nd) (dss_one (ds_if (dt_truth (dr_ix (rm1 hr) (dr_ix (rm1 hr) (dr_var (i := 5)) (dr_var (i := 7))) (dr_var (i := 6)))) (dss_one (ds_setIx (ps_asg (de_lc (pe_lc (own := [(("x" : Str), 13), (("y" : Str), 16)]) rfl nd (dib_zip (pi_zipB rfl G.f_zip (db_cons (dr_ix (rm1 hr) (dr_var (i := 5)) (dr_var (i := 7))) (db_cons (dr_ix (rm1 hr) (dr_var (i := 5)) (dr_var (i := 6))) db_nil)))) (blkOk_by (by kernel_rfl)) (fun _ _ _ _ _ => (dg_tup rfl (dgs_cons (dg_name (i := 13) nd) (dgs_cons (dg_name (i := 16) nd) dgs_nil)))) (fun _ _ _ _ _ => dts_nil) (fun _ _ _ _ _ => (de_or (de_var (i := 13)) (de_one (de_var (i := 16))))))) (pg_sub (pe_var (i := 5) rfl (by first | exact Or.inl rfl | exact Or.inr (Or.inl rfl) | exact Or.inr (Or.inr rfl))) (dr_var (i := 7)) set_list)))) dss_nil))))))) (dss_cons (ds_set (i := 8) nd (de_lc (pe_lc (own := [(("x" : Str), 13)]) rfl nd (dib_of (dif_range1 (pi_range1 rfl G.f_range (db_cons (dr_var (i := 1)) db_nil)))) (blkOk_by (by kernel_rfl)) (fun _ _ _ _ _ => (dg_name (i := 13) nd)) (fun _ _ _ _ _ => dts_nil) (fun _ _ _ _ _ => (de_cb ok_tup (pe_callTy call_tuple_of (by rfl) G.f_tuple boot_tuple (pa_sz (db_cons (dr_of_de (de_lc (pe_lc (own := [(("a" : Str), 7)]) rfl nd (dib_of (dif_range1 (pi_range1 rfl G.f_range (db_cons (dr_var (i := 1)) db_nil)))) (blkOk_by (by kernel_rfl)) (fun _ _ _ _ _ => (dg_name (i := 7) nd)) (fun _ _ _ _ _ => (dts_one (dt_truth (dr_ix (rm1 hr) (dr_ix (rm1 hr) (dr_var (i := 5)) (dr_var (i := 7))) (dr_var (i := 13)))))) (fun _ _ _ _ _ => (de_var (i := 7)))))) db_nil)))))))) (dss_cons (ds_set (i := 9) nd (de_lc (pe_lc (own := [(("x" : Str), 13)]) rfl nd (dib_of (dif_range1 (pi_range1 rfl G.f_range (db_cons (dr_var (i := 1)) db_nil)))) (blkOk_by (by kernel_rfl)) (fun _ _ _ _ _ => (dg_name (i := 13) nd)) (fun _ _ _ _ _ => dts_nil) (fun _ _ _ _ _ => (de_cb ok_tup (pe_callTy call_tuple_of (by rfl) G.f_tuple boot_tuple (pa_sz (db_cons (dr_of_de (de_lc (pe_lc (own := [(("b" : Str), 15)]) rfl nd (dib_of (dif_range1 (pi_range1 rfl G.f_range (db_cons (dr_var (i := 1)) db_nil)))) (blkOk_by (by kernel_rfl)) (fun _ _ _ _ _ => (dg_name (i := 15) nd)) (fun _ _ _ _ _ => (dts_one (dt_truth (dr_ix (rm1 hr) (dr_ix (rm1 hr) (dr_var (i := 5)) (dr_var (i := 13))) (dr_var (i := 15)))))) (fun _ _ _ _ _ => (de_var (i := 15)))))) db_nil)))))))) (dss_cons (ds_for (ps_for PassesOwn.never rfl (dif_range1 (pi_range1 rfl G.f_range (db_cons (dr_of_de (de_op op_shl ok_I (dr_of_de de_int) (dr_var (i := 1)))) db_nil))) (dg_name (i := 10) nd) (dss_cons (ds_set (i := 11) nd (de_cb ok_tup (pe_callTy call_tuple_of (by rfl) G.f_tuple boot_tuple (pa_sz (db_cons (dr_of_de (de_lc (pe_lc (own := [(("x" : Str), 13)]) rfl nd (dib_of (dif_range1 (pi_range1 rfl G.f_range (db_cons (dr_var (i := 1)) db_nil)))) (blkOk_by (by kernel_rfl)) (fun _ _ _ _ _ => (dg_name (i := 13) nd)) (fun _ _ _ _ _ => (dts_one (dt_truth (dr_of_de (de_op op_and ok_I0 (dr_of_de (de_op op_shr ok_I (dr_var (i := 10)) (dr_var (i := 13)))) (dr_of_de de_int)))))) (fun _ _ _ _ _ => (de_var (i := 13)))))) db_nil))))) (dss_one (ds_if (dt_cmp (op_eqD (rm64 hr)) (by rfl) ok_Eq (dr_of_de (de_lc (pe_lc (own := [(("x" : Str), 13)]) rfl nd (dib_seq (dr_var (i := 11))) (blkOk_by (by kernel_rfl)) (fun _ _ _ _ _ => (dg_name (i := 13) nd)) (fun _ _ _ _ _ => (dts_one (dt_cmp (op_neD (rm64 hr)) (by rfl) ok_Ne (dr_of_de (de_lc (pe_lc (own := [(("a" : Str), 7)]) rfl nd (dib_seq (dr_ix (rm1 hr) (dr_var (i := 8)) (dr_var (i := 13)))) (blkOk_by (by kernel_rfl)) (fun _ _ _ _ _ => (dg_name (i := 7) nd)) (fun _ _ _ _ _ => (dts_one (dt_cmp (op_notInAll (rm65 hr)) (by rfl) ok_NotIn (dr_var (i := 7)) (dr_var (i := 11))))) (fun _ _ _ _ _ => de_int)))) (dr_of_de (de_lst da_nil))))) (fun _ _ _ _ _ => de_int)))) (dr_of_de (de_lst da_nil))) (dss_one (ds_app (ps_expr (pe_bm PySem.F.plainAttrs_list PySem.F.slot_list_append PySem.F.type_list_append mt_append (pe_var (i := 3) rfl (by first | exact Or.inl rfl | exact Or.inr (Or.inl rfl) | exact Or.inr (Or.inr rfl))) (pa_cons (de_var (i := 11)) pa_nil))))) dss_nil))))) (dss_cons (ds_fz [3] (ds_for (ps_for PassesOwn.never rfl (dif_seq (de_var (i := 3))) (dg_name (i := 12) nd) (dss_one (ds_ext (ps_expr (pe_bm PySem.F.plainAttrs_list PySem.F.slot_list_extend PySem.F.type_list_extend mt_extend (pe_var (i := 2) rfl (by first | exact Or.inl rfl | exact Or.inr (Or.inl rfl) | exact Or.inr (Or.inr rfl))) (pa_cons (de_lc (pe_lc (own := [(("lot" : Str), 11)]) rfl nd (dib_seq (dr_var (i := 3))) (blkOk_by (by kernel_rfl)) (fun _ _ _ _ _ => (dg_name (i := 11) nd)) (fun _ _ _ _ _ => dts_nil) (fun _ _ _ _ _ => (de_tup (da_cons (de_var (i := 12)) (da_cons (de_cb ok_tup (pe_callTy call_tuple_of (by rfl) G.f_tuple boot_tuple (pa_sz (db_cons (dr_of_de (de_lc (pe_lc (own := [(("x" : Str), 13)]) rfl nd (dib_of (dif_range1 (pi_range1 rfl G.f_range (db_cons (dr_var (i := 1)) db_nil)))) (blkOk_by (by kernel_rfl)) (fun _ _ _ _ _ => (dg_name (i := 13) nd)) (fun _ _ _ _ _ => (dts_one (dt_cmp (op_notInAll (rm65 hr)) (by rfl) ok_NotIn (dr_var (i := 13)) (dr_var (i := 11))))) (fun _ _ _ _ _ => (de_var (i := 13)))))) db_nil)))) da_nil)))))) pa_nil)))))))) (dss_cons (ds_set (i := 2) nd (de_cb ok_sorted (pe_callB (cr_sortedDD (rm65 hr)) (by rfl) G.f_sorted boot_sorted (pa_sz (db_cons (dr_var (i := 2)) db_nil))))) (dss_cons (ds_for (ps_for PassesOwn.never rfl (dif_range1 (pi_range1 rfl G.f_range (db_cons (dr_var (i := 1)) db_nil))) (dg_name (i := 13) nd) (dss_cons (ds_dputT (ps_dput (rm1 hr) (pe_var (i := 4) rfl (by first | exact Or.inl rfl | exact Or.inr (Or.inl rfl) | exact Or.inr (Or.inr rfl))) (pe_tup (da_cons de_str (da_cons (de_var (i := 13)) da_nil))) (de_cb ok_sum (pe_callB (cr_sum rfl) (by rfl) G.f_sum boot_sum (pa_sz (db_cons (dr_of_de (de_lc (pe_lc (own := [(("k" : Str), 17), (("kind" : Str), 18)]) rfl nd (dib_enum (pi_enumB rfl G.f_enumerate (db_cons (dr_var (i := 2)) db_nil))) (blkOk_by (by kernel_rfl)) (fun _ _ _ _ _ => (dg_tup rfl (dgs_cons (dg_name (i := 17) nd) (dgs_cons (dg_name (i := 18) nd) dgs_nil)))) (fun _ _ _ _ _ => (dts_one (dt_cmp (op_inAll (rm65 hr)) (by rfl) ok_In (dr_var (i := 13)) (dr_ix (rm1 hr) (dr_var (i := 18)) (dr_of_de de_int))))) (fun _ _ _ _ _ => (de_op op_shl ok_I (dr_of_de de_int) (dr_var (i := 17))))))) db_nil)))) rfl)) (dss_one (ds_dputT (ps_dput (rm1 hr) (pe_var (i := 4) rfl (by first | exact Or.inl rfl | exact Or.inr (Or.inl rfl) | exact Or.inr (Or.inr rfl))) (pe_tup (da_cons de_str (da_cons (de_var (i := 13)) da_nil))) (de_cb ok_sum (pe_callB (cr_sum rfl) (by rfl) G.f_sum boot_sum (pa_sz (db_cons (dr_of_de (de_lc (pe_lc (own := [(("k" : Str), 17), (("kind" : Str), 18)]) rfl nd (dib_enum (pi_enumB rfl G.f_enumerate (db_cons (dr_var (i := 2)) db_nil))) (blkOk_by (by kernel_rfl)) (fun _ _ _ _ _ => (dg_tup rfl (dgs_cons (dg_name (i := 17) nd) (dgs_cons (dg_name (i := 18) nd) dgs_nil)))) (fun _ _ _ _ _ => (dts_one (dt_cmp (op_inAll (rm65 hr)) (by rfl) ok_In (dr_var (i := 13)) (dr_ix (rm1 hr) (dr_var (i := 18)) (dr_of_de de_int))))) (fun _ _ _ _ _ => (de_op op_shl ok_I (dr_of_de de_int) (dr_var (i := 17))))))) db_nil)))) rfl)))))) (dss_cons (ds_setLc (ps_setLc (i := 14) (own := [(("x" : Str), 13)]) rfl nd rfl rfl (sw_true rfl rfl rfl (by decide +kernel)) (dib_of (dif_range1 (pi_range1 rfl G.f_range (db_cons (dr_var (i := 1)) db_nil)))) (blkOk_by (by kernel_rfl)) (fun _ _ _ _ _ => (dg_name (i := 13) nd)) (fun _ _ _ _ _ => dts_nil) (fun _ _ _ _ _ => (de_cb ok_minL (pe_callB (cr_min rfl) (by rfl) G.f_min boot_min (pa_sz (db_cons (dr_of_de (de_lc (pe_lc (own := [(("a" : Str), 7)]) rfl nd (dib_seq (dr_ix (rm1 hr) (dr_var (i := 8)) (dr_var (i := 13)))) (blkOk_by (by kernel_rfl)) (fun _ _ _ _ _ => (dg_name (i := 7) nd)) (fun _ _ _ _ _ => (dts_one (dt_cmp (op_inAll (rm65 hr)) (by rfl) ok_In (dr_var (i := 7)) (dr_ix (rm1 hr) (dr_var (i := 9)) (dr_var (i := 13)))))) (fun _ _ _ _ _ => (de_var (i := 7)))))) db_nil))))))) (dss_one (ds_fz [2, 4, 8, 9, 14] (ds_ret (de_disp (pps_cons pe_str (de_var (i := 0)) (pps_cons pe_str (de_var (i := 1)) (pps_cons pe_str (de_var (i := 2)) (pps_cons pe_str (de_var (i := 4)) (pps_cons pe_str (de_var (i := 8)) (pps_cons pe_str (de_var (i := 9)) (pps_cons pe_str (de_var (i := 14)) pps_nil))))))) (show List.Nodup [("book" : Str), ("n" : Str), ("kinds" : Str), ("reach" : Str), ("downs" : Str), ("ups" : Str), ("least" : Str)] by decide) (show 7 ≤ 15 by decide) rfl rfl (by simp) (show 7 ≤ 15 by decide)))))))))))))))
abbrev N__law_behind : List Str := [("world" : Str), ("state" : Str), ("deed" : Str), ("mask" : Str)]
abbrev P__law_behind : List Str := [("world" : Str), ("state" : Str), ("deed" : Str)]
theorem sc__law_behind : FnScope N__law_behind P__law_behind (defScope s__law_behind) := ⟨rfl, rfl, rfl, by decide +kernel, rfl, by decide +kernel, by decide +kernel⟩
def T__law_behind : XS := (sSeq (sSet 3 (xFlat (xIx (xIx (xVarR 0) (xC (.str ("reach" : Str)))) (xVarR 2)))) (sSeq (sIf (tBl (x2 cEq (xIx (xVarR 2) (xC (.int 0))) (xC (.str ("pour" : Str))))) (sRet (xTup (xCons (x2 (cI0 Builtin.bitOr) (xIx (xVarR 1) (xC (.int 0))) (xVarR 3)) (xCons (x2 (cI0 fun i j => i - j) (xIx (xVarR 1) (xC (.int 1))) (x2 (cI0 Builtin.bitAnd) (xIx (xVarR 1) (xC (.int 1))) (xVarR 3))) xNil)))) sNext) (sRet (xTup (xCons (x2 (cI0 fun i j => i - j) (xIx (xVarR 1) (xC (.int 0))) (x2 (cI0 Builtin.bitAnd) (xIx (xVarR 1) (xC (.int 0))) (xVarR 3))) (xCons (x2 (cI0 Builtin.bitOr) (xIx (xVarR 1) (xC (.int 1))) (xVarR 3)) xNil))))))
theorem b__law_behind {P : Program} {w : World} {K : PySem.W.Frag} {mg : Str → Option Value} {base : Heap} {dn : Dn} {f : Addr}  (G : Gs K mg) (cdv : Value) (A : Around) (outer : List Env) (s : Shared) (H : Hp) (E : XK) (B : Bs) (hB : B.dn = dn) (hr : Room 0 (A.deeper (envOfC "_law_behind" (defScope s__law_behind) s.heap.objs.size f cdv))) : DSs (cxOf CX0 P w K mg base N__law_behind "_law_behind" (defScope s__law_behind) f cdv A outer s H E).nox B (defBody s__law_behind) (T__law_behind) := by
  subst hB
  have nd := sc__law_behind.nd
  exact (dss_cons (ds_set (i := 3) nd (de_of_dr (dr_ix (rm1 hr) (dr_ix (rm1 hr) (dr_var (i := 0)) (dr_of_de de_str)) (dr_var (i := 2))))) (dss_cons (ds_if (dt_cmp (op_eqD (rm64 hr)) (by rfl) ok_Eq (dr_ix (rm1 hr) (dr_var (i := 2)) (dr_of_de de_int)) (dr_of_de de_str)) (dss_one (ds_ret (de_tup (da_cons (de_op op_or ok_I0 (dr_ix (rm1 hr) (dr_var (i := 1)) (dr_of_de de_int)) (dr_var (i := 3))) (da_cons (de_op op_sub ok_I0 (dr_ix (rm1 hr) (dr_var (i := 1)) (dr_of_de de_int)) (dr_of_de (de_op op_and ok_I0 (dr_ix (rm1 hr) (dr_var (i := 1)) (dr_of_de de_int)) (dr_var (i := 3))))) da_nil))))) dss_nil) (dss_one (ds_ret (de_tup (da_cons (de_op op_sub ok_I0 (dr_ix (rm1 hr) (dr_var (i := 1)) (dr_of_de de_int)) (dr_of_de (de_op op_and ok_I0 (dr_ix (rm1 hr) (dr_var (i := 1)) (dr_of_de de_int)) (dr_var (i := 3))))) (da_cons (de_op op_or ok_I0 (dr_ix (rm1 hr) (dr_var (i := 1)) (dr_of_de de_int)) (dr_var (i := 3))) da_nil)))))))
abbrev N__law_state : List Str := [("world" : Str), ("script" : Str), ("state" : Str), ("deed" : Str)]
abbrev P__law_state : List Str := [("world" : Str), ("script" : Str)]
theorem sc__law_state : FnScope N__law_state P__law_state (defScope s__law_state) := ⟨rfl, rfl, rfl, by decide +kernel, rfl, by decide +kernel, by decide +kernel⟩
def T__law_state (S__law_behind : FS) : XS := (sSeq (sSet 2 (xTup (xCons (xC (.int 0)) (xCons (xC (.int 0)) xNil)))) (sSeq (sFor (xSeq (xVar 1)) (gNm 3) (sSet 2 (xCall S__law_behind (xCons (xVar 0) (xCons (xVar 2) (xCons (xVar 3) xNil)))))) (sRetV 2)))
theorem b__law_state {P : Program} {w : World} {K : PySem.W.Frag} {mg : Str → Option Value} {base : Heap} {dn : Dn} {f : Addr}{ S__law_behind : FS}  (G : Gs K mg) (c__law_behind : Cal P w K mg base dn 1 "_law_behind" s__law_behind P__law_behind S__law_behind) (cdv : Value) (A : Around) (outer : List Env) (s : Shared) (H : Hp) (E : XK) (B : Bs) (hB : B.dn = dn) (hr : Room 1 (A.deeper (envOfC "_law_state" (defScope s__law_state) s.heap.objs.size f cdv))) : DSs (cxOf CX0 P w K mg base N__law_state "_law_state" (defScope s__law_state) f cdv A outer s H E).nox B (defBody s__law_state) (T__law_state S__law_behind) := by
  subst hB
  have nd := sc__law_state.nd
  exact (dss_cons (ds_set (i := 2) nd (de_tup (da_cons de_int (da_cons de_int da_nil)))) (dss_cons (ds_for (ps_for PassesOwn.never rfl (dif_seq (de_var (i := 1))) (dg_name (i := 3) nd) (dss_one (ds_set (i := 2) nd (c__law_behind.de hr (by decide) rfl (da_cons (de_var (i := 0)) (da_cons (de_var (i := 2)) (da_cons (de_var (i := 3)) da_nil)))))))) (dss_one (ds_retv (i := 2) (ps_ret (pe_var rfl (by first | exact Or.inl rfl | exact Or.inr (Or.inl rfl) | exact Or.inr (Or.inr rfl))))))))
abbrev N__law_bad : List Str := [("world" : Str), ("asks" : Str), ("found" : Str), ("word" : Str), ("kind" : Str), ("allowed" : Str)]
abbrev P__law_bad : List Str := [("world" : Str), ("asks" : Str)]
theorem sc__law_bad : FnScope N__law_bad P__law_bad (defScope s__law_bad) := ⟨rfl, rfl, rfl, by decide +kernel, rfl, by decide +kernel, by decide +kernel⟩
def T__law_bad : XS := (sSeq (sSet 2 (xLst xNil)) (sSeq (sFor (xSeq (xTup (xCons (xC (.str ("wet" : Str))) (xCons (xC (.str ("dry" : Str))) (xCons (xC (.str ("kept" : Str))) xNil))))) (gNm 3) (sApp 2 (xCB cSum (xCons (xLC (xSeq (xVarR 1)) (gTp 2 (gC (gNm 4) (gC (gNm 5) gN0))) (tBl (x2 (cIn true) (xVarR 3) (xVarR 5))) (x2 (cI CPow fun i j => i * 2 ^ j.toNat) (xC (.int 1)) (xIndex (xIx (xVarR 0) (xC (.str ("kinds" : Str)))) (xVarR 4))) [4, 5]) xNil)))) (sRetV 2)))
theorem b__law_bad {P : Program} {w : World} {K : PySem.W.Frag} {mg : Str → Option Value} {base : Heap} {dn : Dn} {f : Addr}  (G : Gs K mg) (cdv : Value) (A : Around) (outer : List Env) (s : Shared) (H : Hp) (E : XK) (B : Bs) (hB : B.dn = dn) (hr : Room 0 (A.deeper (envOfC "_law_bad" (defScope s__law_bad) s.heap.objs.size f cdv))) : DSs (cxOf CX0 P w K mg base N__law_bad "_law_bad" (defScope s__law_bad) f cdv A outer s H E).nox B (defBody s__law_bad) (T__law_bad) := by
  subst hB
  have nd := sc__law_bad.nd
  exact (dss_cons (ds_set (i := 2) nd (de_lst da_nil)) (dss_cons (ds_for (ps_for PassesOwn.never rfl (dif_seq (de_tup (da_cons de_str (da_cons de_str (da_cons de_str da_nil))))) (dg_name (i := 3) nd) (dss_one (ds_app (ps_expr (pe_bm PySem.F.plainAttrs_list PySem.F.slot_list_append PySem.F.type_list_append mt_append (pe_var (i := 2) rfl (by first | exact Or.inl rfl | exact Or.inr (Or.inl rfl) | exact Or.inr (Or.inr rfl))) (pa_cons (de_cb ok_sum (pe_callB (cr_sum rfl) (by rfl) G.f_sum boot_sum (pa_sz (db_cons (dr_of_de (de_lc (pe_lc (own := [(("kind" : Str), 4), (("allowed" : Str), 5)]) rfl nd (dib_seq (dr_var (i := 1))) (blkOk_by (by kernel_rfl)) (fun _ _ _ _ _ => (dg_tup rfl (dgs_cons (dg_name (i := 4) nd) (dgs_cons (dg_name (i := 5) nd) dgs_nil)))) (fun _ _ _ _ _ => (dts_one (dt_cmp (op_notInAll (rm65 hr)) (by rfl) ok_NotIn (dr_var (i := 3)) (dr_var (i := 5))))) (fun _ _ _ _ _ => (de_op op_shl ok_I (dr_of_de de_int) (dr_of_de (de_index (pe_bm PySem.F.plainAttrs_list PySem.F.slot_list_index PySem.F.type_list_index (mt_indexD (rm65 hr)) (dr_ix (rm1 hr) (dr_var (i := 0)) (dr_of_de de_str)) (pa_cons (dr_var (i := 4)) pa_nil))))))))) db_nil)))) pa_nil))))))) (dss_one (ds_retv (i := 2) (ps_ret (pe_var rfl (by first | exact Or.inl rfl | exact Or.inr (Or.inl rfl) | exact Or.inr (Or.inr rfl))))))))
abbrev N__law_meets : List Str := [("bad" : Str), ("state" : Str)]
abbrev P__law_meets : List Str := [("bad" : Str), ("state" : Str)]
theorem sc__law_meets : FnScope N__law_meets P__law_meets (defScope s__law_meets) := ⟨rfl, rfl, rfl, by decide +kernel, rfl, by decide +kernel, by decide +kernel⟩
def T__law_meets : XS := (sRet (xAnd (x2 cEq (x2 (cI0 Builtin.bitAnd) (xIx (xVarR 1) (xC (.int 0))) (xIx (xVarR 0) (xC (.int 0)))) (xC (.int 0))) (xAnd (x2 cEq (x2 (cI0 Builtin.bitAnd) (xIx (xVarR 1) (xC (.int 1))) (xIx (xVarR 0) (xC (.int 1)))) (xC (.int 0))) (x2 cEq (x2 (cI0 Builtin.bitAnd) (x2 (cI0 Builtin.bitOr) (xIx (xVarR 1) (xC (.int 0))) (xIx (xVarR 1) (xC (.int 1)))) (xIx (xVarR 0) (xC (.int 2)))) (xIx (xVarR 0) (xC (.int 2)))))))
theorem b__law_meets {P : Program} {w : World} {K : PySem.W.Frag} {mg : Str → Option Value} {base : Heap} {dn : Dn} {f : Addr}  (G : Gs K mg) (cdv : Value) (A : Around) (outer : List Env) (s : Shared) (H : Hp) (E : XK) (B : Bs) (hB : B.dn = dn) (hr : Room 0 (A.deeper (envOfC "_law_meets" (defScope s__law_meets) s.heap.objs.size f cdv))) : DSs (cxOf CX0 P w K mg base N__law_meets "_law_meets" (defScope s__law_meets) f cdv A outer s H E).nox B (defBody s__law_meets) (T__law_meets) := by
  subst hB
  have nd := sc__law_meets.nd
  exact (dss_one (ds_ret (de_and (de_cmp (op_eqD (rm64 hr)) (by rfl) ok_Eq (dr_of_de (de_op op_and ok_I0 (dr_ix (rm1 hr) (dr_var (i := 1)) (dr_of_de de_int)) (dr_ix (rm1 hr) (dr_var (i := 0)) (dr_of_de de_int)))) (dr_of_de de_int)) (de_and (de_cmp (op_eqD (rm64 hr)) (by rfl) ok_Eq (dr_of_de (de_op op_and ok_I0 (dr_ix (rm1 hr) (dr_var (i := 1)) (dr_of_de de_int)) (dr_ix (rm1 hr) (dr_var (i := 0)) (dr_of_de de_int)))) (dr_of_de de_int)) (de_one (de_cmp (op_eqD (rm64 hr)) (by rfl) ok_Eq (dr_of_de (de_op op_and ok_I0 (dr_of_de (de_op op_or ok_I0 (dr_ix (rm1 hr) (dr_var (i := 1)) (dr_of_de de_int)) (dr_ix (rm1 hr) (dr_var (i := 1)) (dr_of_de de_int)))) (dr_ix (rm1 hr) (dr_var (i := 0)) (dr_of_de de_int)))) (dr_ix (rm1 hr) (dr_var (i := 0)) (dr_of_de de_int))))))))
abbrev N__law_script : List Str := [("deck" : Str), ("deeds" : Str), ("most" : Str), ("go" : Str)]
abbrev P__law_script : List Str := [("deck" : Str), ("deeds" : Str), ("most" : Str)]
theorem sc__law_script : FnScope N__law_script P__law_script (defScope s__law_script) := ⟨rfl, rfl, rfl, by decide +kernel, rfl, by decide +kernel, by decide +kernel⟩
def T__law_script (S__law_draw : FS) (S__law_pick : FS) : XS := (sRet (xIf (tBl (x2 cNe (xVarR 1) (xLst xNil))) (xCB cTup (xCons (xLC (xRange1 (xCons (xCall S__law_draw (xCons (xVar 0) (xCons (x2 cAdd (xVarR 2) (xC (.int 1))) xNil))) xNil)) (gNm 3) uYes (xCall S__law_pick (xCons (xVar 0) (xCons (xVar 1) xNil))) [3]) xNil)) (xTup xNil)))
theorem b__law_script {P : Program} {w : World} {K : PySem.W.Frag} {mg : Str → Option Value} {base : Heap} {dn : Dn} {f : Addr}{ S__law_draw S__law_pick : FS}  (G : Gs K mg) (c__law_draw : Cal P w K mg base dn 1 "_law_draw" s__law_draw P__law_draw S__law_draw) (c__law_pick : Cal P w K mg base dn 2 "_law_pick" s__law_pick P__law_pick S__law_pick) (cdv : Value) (A : Around) (outer : List Env) (s : Shared) (H : Hp) (E : XK) (B : Bs) (hB : B.dn = dn) (hr : Room 2 (A.deeper (envOfC "_law_script" (defScope s__law_script) s.heap.objs.size f cdv))) : DSs (cxOf CX0 P w K mg base N__law_script "_law_script" (defScope s__law_script) f cdv A outer s H E).nox B (defBody s__law_script) (T__law_script S__law_draw S__law_pick) := by
  subst hB
  have nd := sc__law_script.nd
  exact (dss_one (ds_ret (de_if (dt_cmp (op_neD (rm64 hr)) (by rfl) ok_Ne (dr_var (i := 1)) (dr_of_de (de_lst da_nil))) (de_cb ok_tup (pe_callTy call_tuple_of (by rfl) G.f_tuple boot_tuple (pa_sz (db_cons (dr_of_de (de_lc (pe_lc (own := [(("go" : Str), 3)]) rfl nd (dib_of (dif_range1 (pi_range1 rfl G.f_range (db_cons (dr_of_de (c__law_draw.de hr (by decide) rfl (da_cons (de_var (i := 0)) (da_cons (de_op op_addAll ok_Add (dr_var (i := 2)) (dr_of_de de_int)) da_nil)))) db_nil)))) (blkOk_by (by kernel_rfl)) (fun _ _ _ _ _ => (dg_name (i := 3) nd)) (fun _ _ _ _ _ => dts_nil) (fun _ _ _ _ _ => (c__law_pick.de hr (by decide) rfl (da_cons (de_var (i := 0)) (da_cons (de_var (i := 1)) da_nil))))))) db_nil)))) (de_tup da_nil))))
abbrev N__law_deeds : List Str := [("n" : Str), ("x" : Str)]
abbrev P__law_deeds : List Str := [("n" : Str)]
theorem sc__law_deeds : FnScope N__law_deeds P__law_deeds (defScope s__law_deeds) := ⟨rfl, rfl, rfl, by decide +kernel, rfl, by decide +kernel, by decide +kernel⟩
def T__law_deeds : XS := (sRet (x2 cAdd (xLC (xRange1 (xCons (xVarR 0) xNil)) (gNm 1) uYes (xTup (xCons (xC (.str ("open" : Str))) (xCons (xVar 1) xNil))) [1]) (xLC (xRange1 (xCons (xVarR 0) xNil)) (gNm 1) uYes (xTup (xCons (xC (.str ("pour" : Str))) (xCons (xVar 1) xNil))) [1])))
theorem b__law_deeds {P : Program} {w : World} {K : PySem.W.Frag} {mg : Str → Option Value} {base : Heap} {dn : Dn} {f : Addr}  (G : Gs K mg) (cdv : Value) (A : Around) (outer : List Env) (s : Shared) (H : Hp) (E : XK) (B : Bs) (hB : B.dn = dn) (hr : Room 0 (A.deeper (envOfC "_law_deeds" (defScope s__law_deeds) s.heap.objs.size f cdv))) : DSs (cxOf CX0 P w K mg base N__law_deeds "_law_deeds" (defScope s__law_deeds) f cdv A outer s H E).nox B (defBody s__law_deeds) (T__law_deeds) := by
  subst hB
  have nd := sc__law_deeds.nd
  exact (dss_one (ds_ret (de_op op_addAll ok_Add (dr_of_de (de_lc (pe_lc (own := [(("x" : Str), 1)]) rfl nd (dib_of (dif_range1 (pi_range1 rfl G.f_range (db_cons (dr_var (i := 0)) db_nil)))) (blkOk_by (by kernel_rfl)) (fun _ _ _ _ _ => (dg_name (i := 1) nd)) (fun _ _ _ _ _ => dts_nil) (fun _ _ _ _ _ => (de_tup (da_cons de_str (da_cons (de_var (i := 1)) da_nil))))))) (dr_of_de (de_lc (pe_lc (own := [(("x" : Str), 1)]) rfl nd (dib_of (dif_range1 (pi_range1 rfl G.f_range (db_cons (dr_var (i := 0)) db_nil)))) (blkOk_by (by kernel_rfl)) (fun _ _ _ _ _ => (dg_name (i := 1) nd)) (fun _ _ _ _ _ => dts_nil) (fun _ _ _ _ _ => (de_tup (da_cons de_str (da_cons (de_var (i := 1)) da_nil))))))))))
abbrev N__law_is_integer : List Str := [("thing" : Str), ("low" : Str), ("high" : Str)]
abbrev P__law_is_integer : List Str := [("thing" : Str), ("low" : Str), ("high" : Str)]
theorem sc__law_is_integer : FnScope N__law_is_integer P__law_is_integer (defScope s__law_is_integer) := ⟨rfl, rfl, rfl, by decide +kernel, rfl, by decide +kernel, by decide +kernel⟩
def T__law_is_integer : XS := (sRet (xAnd (xIsi (xVarR 0) "int") (xAnd (xNot (xIsi (xVarR 0) "bool")) (xChain (fun i j => decide (i ≤ j)) (fun i j => decide (i ≤ j)) (xVarR 1) (xVarR 0) (xVarR 2)))))
theorem b__law_is_integer {P : Program} {w : World} {K : PySem.W.Frag} {mg : Str → Option Value} {base : Heap} {dn : Dn} {f : Addr}  (G : Gs K mg) (cdv : Value) (A : Around) (outer : List Env) (s : Shared) (H : Hp) (E : XK) (B : Bs) (hB : B.dn = dn) (hr : Room 0 (A.deeper (envOfC "_law_is_integer" (defScope s__law_is_integer) s.heap.objs.size f cdv))) : DSs (cxOf CX0 P w K mg base N__law_is_integer "_law_is_integer" (defScope s__law_is_integer) f cdv A outer s H E).nox B (defBody s__law_is_integer) (T__law_is_integer) := by
  subst hB
  have nd := sc__law_is_integer.nd
  exact (dss_one (ds_ret (de_and (de_isi (ty := "int") rfl G.f_isinstance rfl G.f_int boot_int (by decide) (by decide) (dr_var (i := 0))) (de_and (de_not (de_isi (ty := "bool") rfl G.f_isinstance rfl G.f_bool boot_bool (by decide) (by decide) (dr_var (i := 0)))) (de_one (de_chain op_le op_le (dr_var (i := 1)) (dr_var (i := 0)) (dr_var (i := 2))))))))
abbrev N__law_met_asks : List Str := [("deck" : Str), ("world" : Str), ("deeds" : Str), ("most" : Str), ("state" : Str), ("spots" : Str), ("loose" : Str), ("found" : Str), ("go" : Str), ("k" : Str), ("stands" : Str), ("words" : Str), ("word" : Str)]
abbrev P__law_met_asks : List Str := [("deck" : Str), ("world" : Str), ("deeds" : Str), ("most" : Str)]
theorem sc__law_met_asks : FnScope N__law_met_asks P__law_met_asks (defScope s__law_met_asks) := ⟨rfl, rfl, rfl, by decide +kernel, rfl, by decide +kernel, by decide +kernel⟩
def T__law_met_asks (S__law_state : FS) (S__law_draw : FS) : XS := (sSeq (sPar [4, 5, 6, 7] (xCons (xCall S__law_state (xCons (xVar 1) (xCons (xVar 2) xNil))) (xCons xDNewK (xCons (xCall S__law_draw (xCons (xVar 0) (xCons (xC (.int 5)) xNil))) (xCons (xLst xNil) xNil))))) (sSeq (sFor (xRange1 (xCons (x2 cAdd (xC (.int 1)) (xCall S__law_draw (xCons (xVar 0) (xCons (xVar 3) xNil)))) xNil)) (gNm 8) (sSeq (sSet 9 (xCall S__law_draw (xCons (xVar 0) (xCons (xCB cLen (xCons (xIx (xVarR 1) (xC (.str ("kinds" : Str)))) xNil)) xNil)))) (sSeq (sIf (tAndX (tNotX (tTru (x2 (cI0 Builtin.bitAnd) (x2 (cI (fun _ j => 0 ≤ j) fun i j => i / 2 ^ j.toNat) (x2 (cI0 Builtin.bitOr) (xIx (xVarR 4) (xC (.int 0))) (xIx (xVarR 4) (xC (.int 1)))) (xVarR 9)) (xC (.int 1))))) (tBl (x2 cEq (xCall S__law_draw (xCons (xVar 0) (xCons (xC (.int 2)) xNil))) (xC (.int 0))))) (sSet 9 (xCall S__law_draw (xCons (xVar 0) (xCons (xCB cLen (xCons (xIx (xVarR 1) (xC (.str ("kinds" : Str)))) xNil)) xNil)))) sNext) (sDPutK 5 (xVarR 9) (xC (.bool true)))))) (sSeq (sFor (xSeq (xCB cSorted (xCons (xCB cLstD (xCons (xVarR 5) xNil)) xNil))) (gNm 9) (sSeq (sSet 10 (xIf (tTru (x2 (cI0 Builtin.bitAnd) (x2 (cI (fun _ j => 0 ≤ j) fun i j => i / 2 ^ j.toNat) (xIx (xVarR 4) (xC (.int 0))) (xVarR 9)) (xC (.int 1)))) (xC (.str ("wet" : Str))) (xIf (tTru (x2 (cI0 Builtin.bitAnd) (x2 (cI (fun _ j => 0 ≤ j) fun i j => i / 2 ^ j.toNat) (xIx (xVarR 4) (xC (.int 1))) (xVarR 9)) (xC (.int 1)))) (xC (.str ("dry" : Str))) (xC (.str ("kept" : Str)))))) (sSeq (sSet 11 (xLC (xSeq (xTup (xCons (xC (.str ("dry" : Str))) (xCons (xC (.str ("kept" : Str))) (xCons (xC (.str ("wet" : Str))) xNil))))) (gNm 12) (tOrX (tBl (x2 cEq (xVarR 12) (xVarR 10))) (tBl (x2 (cB0 fun i j => decide (i < j)) (xCall S__law_draw (xCons (xVar 0) (xCons (xC (.int 8)) xNil))) (xVarR 6)))) (xVar 12) [12])) (sApp 7 (xTup (xCons (xFlat (xIx (xIx (xVarR 1) (xC (.str ("kinds" : Str)))) (xVarR 9))) (xCons (xCB cTup (xCons (xVarR 11) xNil)) xNil))))))) (sRet (xCB cTup (xCons (xVarR 7) xNil))))))
theorem b__law_met_asks {P : Program} {w : World} {K : PySem.W.Frag} {mg : Str → Option Value} {base : Heap} {dn : Dn} {f : Addr}{ S__law_state S__law_draw : FS}  (G : Gs K mg) (c__law_state : Cal P w K mg base dn 2 "_law_state" s__law_state P__law_state S__law_state) (c__law_draw : Cal P w K mg base dn 1 "_law_draw" s__law_draw P__law_draw S__law_draw) (cdv : Value) (A : Around) (outer : List Env) (s : Shared) (H : Hp) (E : XK) (B : Bs) (hB : B.dn = dn) (hr : Room 2 (A.deeper (envOfC "_law_met_asks" (defScope s__law_met_asks) s.heap.objs.size f cdv))) : DSs (cxOf CX0 P w K mg base N__law_met_asks "_law_met_asks" (defScope s__law_met_asks) f cdv A outer s H E).nox B (defBody s__law_met_asks) (T__law_met_asks S__law_state S__law_draw) := by
  subst hB
  have nd := sc__law_met_asks.nd
  exact (dss_cons (ds_parN (is := [4, 5, 6, 7]) (n := 4) (ps_asg (pe_tup (da_cons (c__law_state.de hr (by decide) rfl (da_cons (de_var (i := 1)) (da_cons (de_var (i := 2)) da_nil))) (da_cons de_dnewK (da_cons (c__law_draw.de hr (by decide) rfl (da_cons (de_var (i := 0)) (da_cons de_int da_nil))) (da_cons (de_lst da_nil) da_nil))))) (pg_tup rfl (pgs_cons (pg_name (i := 4) nd rfl (by first | exact Or.inl rfl | exact Or.inr rfl)) (pgs_cons (pg_name (i := 5) nd rfl (by first | exact Or.inl rfl | exact Or.inr rfl)) (pgs_cons (pg_name (i := 6) nd rfl (by first | exact Or.inl rfl | exact Or.inr rfl)) (pgs_cons (pg_name (i := 7) nd rfl (by first | exact Or.inl rfl | exact Or.inr rfl)) pgs_nil))))))) (dss_cons (ds_for (ps_for PassesOwn.never rfl (dif_range1 (pi_range1 rfl G.f_range (db_cons (dr_of_de (de_op op_addAll ok_Add (dr_of_de de_int) (dr_of_de (c__law_draw.de hr (by decide) rfl (da_cons (de_var (i := 0)) (da_cons (de_var (i := 3)) da_nil)))))) db_nil))) (dg_name (i := 8) nd) (dss_cons (ds_set (i := 9) nd (c__law_draw.de hr (by decide) rfl (da_cons (de_var (i := 0)) (da_cons (de_cb ok_len (pe_callB call_len (by rfl) G.f_len boot_len (pa_sz (db_cons (dr_ix (rm1 hr) (dr_var (i := 1)) (dr_of_de de_str)) db_nil)))) da_nil)))) (dss_cons (ds_if (dt_w (dw_and (dt_not (dt_truth (dr_of_de (de_op op_and ok_I0 (dr_of_de (de_op op_shr ok_I (dr_of_de (de_op op_or ok_I0 (dr_ix (rm1 hr) (dr_var (i := 4)) (dr_of_de de_int)) (dr_ix (rm1 hr) (dr_var (i := 4)) (dr_of_de de_int)))) (dr_var (i := 9)))) (dr_of_de de_int))))) (dw_and1 (dt_cmp (op_eqD (rm64 hr)) (by rfl) ok_Eq (dr_of_de (c__law_draw.de hr (by decide) rfl (da_cons (de_var (i := 0)) (da_cons de_int da_nil)))) (dr_of_de de_int))))) (dss_one (ds_set (i := 9) nd (c__law_draw.de hr (by decide) rfl (da_cons (de_var (i := 0)) (da_cons (de_cb ok_len (pe_callB call_len (by rfl) G.f_len boot_len (pa_sz (db_cons (dr_ix (rm1 hr) (dr_var (i := 1)) (dr_of_de de_str)) db_nil)))) da_nil))))) dss_nil) (dss_one (ds_dputK (ps_dput (rm1 hr) (pe_var (i := 5) rfl (by first | exact Or.inl rfl | exact Or.inr (Or.inl rfl) | exact Or.inr (Or.inr rfl))) (dr_var (i := 9)) de_bl rfl))))))) (dss_cons (ds_for (ps_for PassesOwn.never rfl (dif_seq (de_cb ok_sorted (pe_callB (cr_sortedDD (rm65 hr)) (by rfl) G.f_sorted boot_sorted (pa_sz (db_cons (dr_of_de (de_cb ok_lstD (pe_callTy (call_list_dK rfl) (by rfl) G.f_list boot_list (pa_sz (db_cons (dr_var (i := 5)) db_nil))))) db_nil))))) (dg_name (i := 9) nd) (dss_cons (ds_set (i := 10) nd (de_if (dt_truth (dr_of_de (de_op op_and ok_I0 (dr_of_de (de_op op_shr ok_I (dr_ix (rm1 hr) (dr_var (i := 4)) (dr_of_de de_int)) (dr_var (i := 9)))) (dr_of_de de_int)))) de_str (de_if (dt_truth (dr_of_de (de_op op_and ok_I0 (dr_of_de (de_op op_shr ok_I (dr_ix (rm1 hr) (dr_var (i := 4)) (dr_of_de de_int)) (dr_var (i := 9)))) (dr_of_de de_int)))) de_str de_str))) (dss_cons (ds_setLc (ps_setLc (i := 11) (own := [(("word" : Str), 12)]) rfl nd rfl rfl (sw_true rfl rfl rfl (by decide +kernel)) (dib_seq (dr_of_de (de_tup (da_cons de_str (da_cons de_str (da_cons de_str da_nil)))))) (blkOk_by (by kernel_rfl)) (fun _ _ _ _ _ => (dg_name (i := 12) nd)) (fun _ _ _ _ _ => (dts_one (dt_w (dw_or (dt_cmp (op_eqD (rm64 hr)) (by rfl) ok_Eq (dr_var (i := 12)) (dr_var (i := 10))) (dw_or1 (dt_cmp op_lt (by rfl) ok_B0 (dr_of_de (c__law_draw.de hr (by decide) rfl (da_cons (de_var (i := 0)) (da_cons de_int da_nil)))) (dr_var (i := 6)))))))) (fun _ _ _ _ _ => (de_var (i := 12))))) (dss_one (ds_app (ps_expr (pe_bm PySem.F.plainAttrs_list PySem.F.slot_list_append PySem.F.type_list_append mt_append (pe_var (i := 7) rfl (by first | exact Or.inl rfl | exact Or.inr (Or.inl rfl) | exact Or.inr (Or.inr rfl))) (pa_cons (de_tup (da_cons (de_of_dr (dr_ix (rm1 hr) (dr_ix (rm1 hr) (dr_var (i := 1)) (dr_of_de de_str)) (dr_var (i := 9)))) (da_cons (de_cb ok_tup (pe_callTy call_tuple_of (by rfl) G.f_tuple boot_tuple (pa_sz (db_cons (dr_var (i := 11)) db_nil)))) da_nil))) pa_nil))))))))) (dss_one (ds_ret (de_cb ok_tup (pe_callTy call_tuple_of (by rfl) G.f_tuple boot_tuple (pa_sz (db_cons (dr_var (i := 7)) db_nil)))))))))
abbrev N__law_echoed : List Str := [("deck" : Str), ("world" : Str), ("most" : Str), ("deeds" : Str), ("found" : Str), ("short" : Str), ("times" : Str), ("deed" : Str)]
abbrev P__law_echoed : List Str := [("deck" : Str), ("world" : Str), ("most" : Str)]
theorem sc__law_echoed : FnScope N__law_echoed P__law_echoed (defScope s__law_echoed) := ⟨rfl, rfl, rfl, by decide +kernel, rfl, by decide +kernel, by decide +kernel⟩
def T__law_echoed (S__law_deeds : FS) (S__law_script : FS) (S__law_pick : FS) (S__law_draw : FS) : XS := (sSeq (sPar [3, 4] (xCons (xCall S__law_deeds (xCons (xFlat (xIx (xVarR 1) (xC (.str ("n" : Str))))) xNil)) (xCons (xLst xNil) xNil))) (sSeq (sFz [3] (sPar [5, 6] (xCons (xCall S__law_script (xCons (xVar 0) (xCons (xVar 3) (xCons (xCall S__law_pick (xCons (xVar 0) (xCons (xLst (xCons (xC (.int 2)) (xCons (xC (.int 4)) (xCons (xC (.int 6)) (xCons (xVar 2) xNil))))) xNil))) xNil)))) (xCons (xCall S__law_pick (xCons (xVar 0) (xCons (xLst (xCons (xC (.int 1)) (xCons (xC (.int 1)) (xCons (xC (.int 2)) (xCons (xC (.int 3)) xNil))))) xNil))) xNil)))) (sSeq (sFor (xSeq (xVar 5)) (gNm 7) (sExt 4 (x2 cRep (xLst (xCons (xVar 7) xNil)) (x2 cAdd (xC (.int 1)) (xCall S__law_draw (xCons (xVar 0) (xCons (xVar 6) xNil))))))) (sRet (xCB cTup (xCons (xSl (xVarR 4) xNoPart (xPart (xVarR 2))) xNil))))))
theorem b__law_echoed {P : Program} {w : World} {K : PySem.W.Frag} {mg : Str → Option Value} {base : Heap} {dn : Dn} {f : Addr}{ S__law_deeds S__law_script S__law_pick S__law_draw : FS}  (G : Gs K mg) (c__law_deeds : Cal P w K mg base dn 1 "_law_deeds" s__law_deeds P__law_deeds S__law_deeds) (c__law_script : Cal P w K mg base dn 3 "_law_script" s__law_script P__law_script S__law_script) (c__law_pick : Cal P w K mg base dn 2 "_law_pick" s__law_pick P__law_pick S__law_pick) (c__law_draw : Cal P w K mg base dn 1 "_law_draw" s__law_draw P__law_draw S__law_draw) (cdv : Value) (A : Around) (outer : List Env) (s : Shared) (H : Hp) (E : XK) (B : Bs) (hB : B.dn = dn) (hr : Room 3 (A.deeper (envOfC "_law_echoed" (defScope s__law_echoed) s.heap.objs.size f cdv))) : DSs (cxOf CX0 P w K mg base N__law_echoed "_law_echoed" (defScope s__law_echoed) f cdv A outer s H E).nox B (defBody s__law_echoed) (T__law_echoed S__law_deeds S__law_script S__law_pick S__law_draw) := by
  subst hB
  have nd := sc__law_echoed.nd
  exact (dss_cons (ds_par2 (ps_par (i := 3) (j := 4) rfl nd rfl rfl (by decide) rfl rfl (da_cons (c__law_deeds.de hr (by decide) rfl (da_cons (de_of_dr (dr_ix (rm1 hr) (dr_var (i := 1)) (dr_of_de de_str))) da_nil)) (da_cons (de_lst da_nil) da_nil)) rfl)) (dss_cons (ds_fz [3] (ds_par2 (ps_par (i := 5) (j := 6) rfl nd rfl rfl (by decide) rfl rfl (da_cons (c__law_script.de hr (by decide) rfl (da_cons (de_var (i := 0)) (da_cons (de_var (i := 3)) (da_cons (c__law_pick.de hr (by decide) rfl (da_cons (de_var (i := 0)) (da_cons (de_lst (da_cons de_int (da_cons de_int (da_cons de_int (da_cons (de_var (i := 2)) da_nil))))) da_nil))) da_nil)))) (da_cons (c__law_pick.de hr (by decide) rfl (da_cons (de_var (i := 0)) (da_cons (de_lst (da_cons de_int (da_cons de_int (da_cons de_int (da_cons de_int da_nil))))) da_nil))) da_nil)) rfl))) (dss_cons (ds_for (ps_for PassesOwn.never rfl (dif_seq (de_var (i := 5))) (dg_name (i := 7) nd) (dss_one (ds_ext (ps_expr (pe_bm PySem.F.plainAttrs_list PySem.F.slot_list_extend PySem.F.type_list_extend mt_extend (pe_var (i := 4) rfl (by first | exact Or.inl rfl | exact Or.inr (Or.inl rfl) | exact Or.inr (Or.inr rfl))) (pa_cons (de_op op_rep ok_Rep (dr_of_de (de_lst (da_cons (de_var (i := 7)) da_nil))) (dr_of_de (de_op op_addAll ok_Add (dr_of_de de_int) (dr_of_de (c__law_draw.de hr (by decide) rfl (da_cons (de_var (i := 0)) (da_cons (de_var (i := 6)) da_nil))))))) pa_nil))))))) (dss_one (ds_ret (de_cb ok_tup (pe_callTy call_tuple_of (by rfl) G.f_tuple boot_tuple (pa_sz (db_cons (dr_of_de (de_sl (dr_var (i := 4)) do_none (do_some (dr_var (i := 2))))) db_nil)))))))))
abbrev N__law_again : List Str := [("deeds" : Str), ("i" : Str), ("at" : Str)]
abbrev P__law_again : List Str := [("deeds" : Str), ("i" : Str), ("at" : Str)]
theorem sc__law_again : FnScope N__law_again P__law_again (defScope s__law_again) := ⟨rfl, rfl, rfl, by decide +kernel, rfl, by decide +kernel, by decide +kernel⟩
def T__law_again : XS := (sRet (x2 cAdd (x2 cAdd (xSl (xVarR 0) xNoPart (xPart (xVarR 2))) (xTup (xCons (xFlat (xIx (xVarR 0) (xVarR 1))) xNil))) (xSl (xVarR 0) (xPart (xVarR 2)) xNoPart)))
theorem b__law_again {P : Program} {w : World} {K : PySem.W.Frag} {mg : Str → Option Value} {base : Heap} {dn : Dn} {f : Addr}  (G : Gs K mg) (cdv : Value) (A : Around) (outer : List Env) (s : Shared) (H : Hp) (E : XK) (B : Bs) (hB : B.dn = dn) (hr : Room 0 (A.deeper (envOfC "_law_again" (defScope s__law_again) s.heap.objs.size f cdv))) : DSs (cxOf CX0 P w K mg base N__law_again "_law_again" (defScope s__law_again) f cdv A outer s H E).nox B (defBody s__law_again) (T__law_again) := by
  subst hB
  have nd := sc__law_again.nd
  exact (dss_one (ds_ret (de_op op_addAll ok_Add (dr_of_de (de_op op_addAll ok_Add (dr_of_de (de_sl (dr_var (i := 0)) do_none (do_some (dr_var (i := 2))))) (dr_of_de (de_tup (da_cons (de_of_dr (dr_ix (rm1 hr) (dr_var (i := 0)) (dr_var (i := 1)))) da_nil))))) (dr_of_de (de_sl (dr_var (i := 0)) (do_some (dr_var (i := 2))) do_none)))))
abbrev N__law_breaking : List Str := [("world" : Str), ("deeds" : Str), ("bad" : Str), ("found" : Str), ("states" : Str), ("deed" : Str), ("i" : Str), ("at" : Str), ("state" : Str), ("later" : Str)]
abbrev P__law_breaking : List Str := [("world" : Str), ("deeds" : Str), ("bad" : Str)]
theorem sc__law_breaking : FnScope N__law_breaking P__law_breaking (defScope s__law_breaking) := ⟨rfl, rfl, rfl, by decide +kernel, rfl, by decide +kernel, by decide +kernel⟩
def T__law_breaking (S__law_behind : FS) (S__law_meets : FS) : XS := (sSeq (sPar [3, 4] (xCons (xLst xNil) (xCons (xLst (xCons (xTup (xCons (xC (.int 0)) (xCons (xC (.int 0)) xNil))) xNil)) xNil))) (sSeq (sFor (xSeq (xVar 1)) (gNm 5) (sApp 4 (xCall S__law_behind (xCons (xVar 0) (xCons (xFlat (xIx (xVarR 4) (x1 cNeg (xC (.int 1))))) (xCons (xVar 5) xNil)))))) (sSeq (sFor (xEnum (xCons (xVar 1) xNil)) (gTp 2 (gC (gNm 6) (gC (gNm 5) gN0))) (sFor (xRange2 (xCons (x2 cAdd (xVarR 6) (xC (.int 1))) (xCons (x2 cAdd (xCB cLen (xCons (xVarR 1) xNil)) (xC (.int 1))) xNil))) (gNm 7) (sSeq (sSet 8 (xCall S__law_behind (xCons (xVar 0) (xCons (xFlat (xIx (xVarR 4) (xVarR 7))) (xCons (xVar 5) xNil))))) (sSeq (sFor (xSeq (xSl (xVarR 1) (xPart (xVarR 7)) xNoPart)) (gNm 9) (sSet 8 (xCall S__law_behind (xCons (xVar 0) (xCons (xVar 8) (xCons (xVar 9) xNil)))))) (sIf (tNotX (tBl (xCall S__law_meets (xCons (xVar 2) (xCons (xVar 8) xNil))))) (sApp 3 (xTup (xCons (xVar 6) (xCons (xVar 7) xNil)))) sNext))))) (sRetV 3))))
theorem b__law_breaking {P : Program} {w : World} {K : PySem.W.Frag} {mg : Str → Option Value} {base : Heap} {dn : Dn} {f : Addr}{ S__law_behind S__law_meets : FS}  (G : Gs K mg) (c__law_behind : Cal P w K mg base dn 1 "_law_behind" s__law_behind P__law_behind S__law_behind) (c__law_meets : Cal P w K mg base dn 1 "_law_meets" s__law_meets P__law_meets S__law_meets) (cdv : Value) (A : Around) (outer : List Env) (s : Shared) (H : Hp) (E : XK) (B : Bs) (hB : B.dn = dn) (hr : Room 1 (A.deeper (envOfC "_law_breaking" (defScope s__law_breaking) s.heap.objs.size f cdv))) : DSs (cxOf CX0 P w K mg base N__law_breaking "_law_breaking" (defScope s__law_breaking) f cdv A outer s H E).nox B (defBody s__law_breaking) (T__law_breaking S__law_behind S__law_meets) := by
  subst hB
  have nd := sc__law_breaking.nd
  exact (dss_cons (ds_par2 (ps_par (i := 3) (j := 4) rfl nd rfl rfl (by decide) rfl rfl (da_cons (de_lst da_nil) (da_cons (de_lst (da_cons (de_tup (da_cons de_int (da_cons de_int da_nil))) da_nil)) da_nil)) rfl)) (dss_cons (ds_for (ps_for PassesOwn.never rfl (dif_seq (de_var (i := 1))) (dg_name (i := 5) nd) (dss_one (ds_app (ps_expr (pe_bm PySem.F.plainAttrs_list PySem.F.slot_list_append PySem.F.type_list_append mt_append (pe_var (i := 4) rfl (by first | exact Or.inl rfl | exact Or.inr (Or.inl rfl) | exact Or.inr (Or.inr rfl))) (pa_cons (c__law_behind.de hr (by decide) rfl (da_cons (de_var (i := 0)) (da_cons (de_of_dr (dr_ix (rm1 hr) (dr_var (i := 4)) (dr_of_de (de_un un_neg ok_Neg (dr_of_de de_int))))) (da_cons (de_var (i := 5)) da_nil)))) pa_nil))))))) (dss_cons (ds_for (ps_for PassesOwn.never rfl (dif_enum (pi_enumB rfl G.f_enumerate (da_cons (de_var (i := 1)) da_nil))) (dg_tup rfl (dgs_cons (dg_name (i := 6) nd) (dgs_cons (dg_name (i := 5) nd) dgs_nil))) (dss_one (ds_for (ps_for PassesOwn.never rfl (dif_range2 (pi_range2 rfl G.f_range (db_cons (dr_of_de (de_op op_addAll ok_Add (dr_var (i := 6)) (dr_of_de de_int))) (db_cons (dr_of_de (de_op op_addAll ok_Add (dr_of_de (de_cb ok_len (pe_callB call_len (by rfl) G.f_len boot_len (pa_sz (db_cons (dr_var (i := 1)) db_nil))))) (dr_of_de de_int))) db_nil)))) (dg_name (i := 7) nd) (dss_cons (ds_set (i := 8) nd (c__law_behind.de hr (by decide) rfl (da_cons (de_var (i := 0)) (da_cons (de_of_dr (dr_ix (rm1 hr) (dr_var (i := 4)) (dr_var (i := 7)))) (da_cons (de_var (i := 5)) da_nil))))) (dss_cons (ds_for (ps_for PassesOwn.never rfl (dif_seq (de_sl (dr_var (i := 1)) (do_some (dr_var (i := 7))) do_none)) (dg_name (i := 9) nd) (dss_one (ds_set (i := 8) nd (c__law_behind.de hr (by decide) rfl (da_cons (de_var (i := 0)) (da_cons (de_var (i := 8)) (da_cons (de_var (i := 9)) da_nil)))))))) (dss_one (ds_if (dt_not (dt_val (c__law_meets.de hr (by decide) rfl (da_cons (de_var (i := 2)) (da_cons (de_var (i := 8)) da_nil))))) (dss_one (ds_app (ps_expr (pe_bm PySem.F.plainAttrs_list PySem.F.slot_list_append PySem.F.type_list_append mt_append (pe_var (i := 3) rfl (by first | exact Or.inl rfl | exact Or.inr (Or.inl rfl) | exact Or.inr (Or.inr rfl))) (pa_cons (de_tup (da_cons (de_var (i := 6)) (da_cons (de_var (i := 7)) da_nil))) pa_nil))))) dss_nil))))))))) (dss_one (ds_retv (i := 3) (ps_ret (pe_var rfl (by first | exact Or.inl rfl | exact Or.inr (Or.inl rfl) | exact Or.inr (Or.inr rfl)))))))))
abbrev N__law_is_harmless : List Str := [("deeds" : Str), ("asks" : Str), ("sort" : Str), ("name" : Str), ("side" : Str), ("word" : Str), ("kind" : Str), ("allowed" : Str)]
abbrev P__law_is_harmless : List Str := [("deeds" : Str), ("asks" : Str)]
theorem sc__law_is_harmless : FnScope N__law_is_harmless P__law_is_harmless (defScope s__law_is_harmless) := ⟨rfl, rfl, rfl, by decide +kernel, rfl, by decide +kernel, by decide +kernel⟩
def T__law_is_harmless : XS := (sSeq (sFor (xSeq (xVar 0)) (gTp 2 (gC (gNm 2) (gC (gNm 3) gN0))) (sSeq (sAsg (xIf (tBl (x2 cEq (xVarR 2) (xC (.str ("pour" : Str))))) (xTup (xCons (xC (.int 1)) (xCons (xC (.str ("wet" : Str))) xNil))) (xTup (xCons (xC (.int 0)) (xCons (xC (.str ("dry" : Str))) xNil)))) (gTp 2 (gC (gNm 4) (gC (gNm 5) gN0)))) (sIf (tBl (x2 cNe (xLC (xSeq (xVarR 1)) (gTp 2 (gC (gNm 6) (gC (gNm 7) gN0))) (tAndX (tBl (x2 (cIn false) (xVarR 3) (xIx (xVarR 6) (xVarR 4)))) (tBl (x2 (cIn true) (xVarR 5) (xVarR 7)))) (xC (.int 1)) [6, 7]) (xLst xNil))) (sRet (xC (.bool false))) sNext))) (sRet (xC (.bool true))))
theorem b__law_is_harmless {P : Program} {w : World} {K : PySem.W.Frag} {mg : Str → Option Value} {base : Heap} {dn : Dn} {f : Addr}  (G : Gs K mg) (cdv : Value) (A : Around) (outer : List Env) (s : Shared) (H : Hp) (E : XK) (B : Bs) (hB : B.dn = dn) (hr : Room 0 (A.deeper (envOfC "_law_is_harmless" (defScope s__law_is_harmless) s.heap.objs.size f cdv))) : DSs (cxOf CX0 P w K mg base N__law_is_harmless "_law_is_harmless" (defScope s__law_is_harmless) f cdv A outer s H E).nox B (defBody s__law_is_harmless) (T__law_is_harmless) := by
  subst hB
  have nd := sc__law_is_harmless.nd
  exact (dss_cons (ds_for (ps_for PassesOwn.never rfl (dif_seq (de_var (i := 0))) (dg_tup rfl (dgs_cons (dg_name (i := 2) nd) (dgs_cons (dg_name (i := 3) nd) dgs_nil))) (dss_cons (ds_asg (de_if (dt_cmp (op_eqD (rm64 hr)) (by rfl) ok_Eq (dr_var (i := 2)) (dr_of_de de_str)) (de_tup (da_cons de_int (da_cons de_str da_nil))) (de_tup (da_cons de_int (da_cons de_str da_nil)))) (dg_tup rfl (dgs_cons (dg_name (i := 4) nd) (dgs_cons (dg_name (i := 5) nd) dgs_nil)))) (dss_one (ds_if (dt_cmp (op_neD (rm64 hr)) (by rfl) ok_Ne (dr_of_de (de_lc (pe_lc (own := [(("kind" : Str), 6), (("allowed" : Str), 7)]) rfl nd (dib_seq (dr_var (i := 1))) (blkOk_by (by kernel_rfl)) (fun _ _ _ _ _ => (dg_tup rfl (dgs_cons (dg_name (i := 6) nd) (dgs_cons (dg_name (i := 7) nd) dgs_nil)))) (fun _ _ _ _ _ => (dts_one (dt_w (dw_and (dt_cmp (op_inAll (rm65 hr)) (by rfl) ok_In (dr_var (i := 3)) (dr_ix (rm1 hr) (dr_var (i := 6)) (dr_var (i := 4)))) (dw_and1 (dt_cmp (op_notInAll (rm65 hr)) (by rfl) ok_NotIn (dr_var (i := 5)) (dr_var (i := 7)))))))) (fun _ _ _ _ _ => de_int)))) (dr_of_de (de_lst da_nil))) (dss_one (ds_ret de_bl)) dss_nil))))) (dss_one (ds_ret de_bl)))
abbrev N__law_calm : List Str := [("deck" : Str), ("world" : Str), ("asks" : Str), ("some" : Str), ("deed" : Str)]
abbrev P__law_calm : List Str := [("deck" : Str), ("world" : Str), ("asks" : Str)]
theorem sc__law_calm : FnScope N__law_calm P__law_calm (defScope s__law_calm) := ⟨rfl, rfl, rfl, by decide +kernel, rfl, by decide +kernel, by decide +kernel⟩
def T__law_calm (S__law_deeds : FS) (S__law_is_harmless : FS) (S__law_script : FS) : XS := (sSeq (sSet 3 (xLC (xSeq (xCall S__law_deeds (xCons (xFlat (xIx (xVarR 1) (xC (.str ("n" : Str))))) xNil))) (gNm 4) (tBl (xCall S__law_is_harmless (xCons (xTup (xCons (xVar 4) xNil)) (xCons (xVar 2) xNil)))) (xVar 4) [4])) (sFz [3] (sRet (xCall S__law_script (xCons (xVar 0) (xCons (xVar 3) (xCons (xC (.int 8)) xNil)))))))
theorem b__law_calm {P : Program} {w : World} {K : PySem.W.Frag} {mg : Str → Option Value} {base : Heap} {dn : Dn} {f : Addr}{ S__law_deeds S__law_is_harmless S__law_script : FS}  (G : Gs K mg) (c__law_deeds : Cal P w K mg base dn 1 "_law_deeds" s__law_deeds P__law_deeds S__law_deeds) (c__law_is_harmless : Cal P w K mg base dn 1 "_law_is_harmless" s__law_is_harmless P__law_is_harmless S__law_is_harmless) (c__law_script : Cal P w K mg base dn 3 "_law_script" s__law_script P__law_script S__law_script) (cdv : Value) (A : Around) (outer : List Env) (s : Shared) (H : Hp) (E : XK) (B : Bs) (hB : B.dn = dn) (hr : Room 3 (A.deeper (envOfC "_law_calm" (defScope s__law_calm) s.heap.objs.size f cdv))) : DSs (cxOf CX0 P w K mg base N__law_calm "_law_calm" (defScope s__law_calm) f cdv A outer s H E).nox B (defBody s__law_calm) (T__law_calm S__law_deeds S__law_is_harmless S__law_script) := by
  subst hB
  have nd := sc__law_calm.nd
  exact (dss_cons (ds_setLc (ps_setLc (i := 3) (own := [(("deed" : Str), 4)]) rfl nd rfl rfl (sw_true rfl rfl rfl (by decide +kernel)) (dib_seq (dr_of_de (c__law_deeds.de hr (by decide) rfl (da_cons (de_of_dr (dr_ix (rm1 hr) (dr_var (i := 1)) (dr_of_de de_str))) da_nil)))) (blkOk_by (by kernel_rfl)) (fun _ _ _ _ _ => (dg_name (i := 4) nd)) (fun _ _ _ _ _ => (dts_one (dt_val (c__law_is_harmless.de hr (by decide) rfl (da_cons (de_tup (da_cons (de_var (i := 4)) da_nil)) (da_cons (de_var (i := 2)) da_nil)))))) (fun _ _ _ _ _ => (de_var (i := 4))))) (dss_one (ds_fz [3] (ds_ret (c__law_script.de hr (by decide) rfl (da_cons (de_var (i := 0)) (da_cons (de_var (i := 3)) (da_cons de_int da_nil))))))))
abbrev N__law_is_right : List Str := [("case" : Str), ("thing" : Str), ("at" : Str)]
abbrev P__law_is_right : List Str := [("case" : Str), ("thing" : Str)]
theorem sc__law_is_right : FnScope N__law_is_right P__law_is_right (defScope s__law_is_right) := ⟨rfl, rfl, rfl, by decide +kernel, rfl, by decide +kernel, by decide +kernel⟩
def T__law_is_right (S__law_is_integer : FS) : XS := (sSeq (sIf (tOrX (tNotX (tBl (xIsi (xVarR 1) "tuple"))) (tOrX (tBl (x2 (cIn true) (xCB cLen (xCons (xVarR 1) xNil)) (xTup (xCons (xC (.int 1)) (xCons (xC (.int 3)) xNil))))) (tNotX (tBl (xIsi (xIx (xVarR 1) (xC (.int 0))) "str"))))) (sRet (xC (.bool false))) sNext) (sSeq (sIf (tBl (x2 cEq (xCB cLen (xCons (xVarR 1) xNil)) (xC (.int 1)))) (sRet (xAnd (x2 cEq (xIx (xVarR 1) (xC (.int 0))) (xC (.str ("firm" : Str)))) (x2 cEq (xIx (xVarR 0) (xC (.str ("breaking" : Str)))) (xLst xNil)))) sNext) (sSeq (sIf (tOrX (tBl (x2 cNe (xIx (xVarR 1) (xC (.int 0))) (xC (.str ("echo" : Str))))) (tBl (x2 cNe (xLC (xSeq (xSl (xVarR 1) (xPart (xC (.int 1))) xNoPart)) (gNm 2) (tNotX (tBl (xCall S__law_is_integer (xCons (xVar 2) (xCons (xC (.int 0)) (xCons (xCB cLen (xCons (xIx (xVarR 0) (xC (.str ("deeds" : Str)))) xNil)) xNil)))))) (xC (.int 1)) [2]) (xLst xNil)))) (sRet (xC (.bool false))) sNext) (sRet (x2 (cIn false) (xTup (xCons (xFlat (xIx (xVarR 1) (xC (.int 1)))) (xCons (xFlat (xIx (xVarR 1) (xC (.int 2)))) xNil))) (xIx (xVarR 0) (xC (.str ("breaking" : Str)))))))))
theorem b__law_is_right {P : Program} {w : World} {K : PySem.W.Frag} {mg : Str → Option Value} {base : Heap} {dn : Dn} {f : Addr}{ S__law_is_integer : FS}  (G : Gs K mg) (c__law_is_integer : Cal P w K mg base dn 1 "_law_is_integer" s__law_is_integer P__law_is_integer S__law_is_integer) (cdv : Value) (A : Around) (outer : List Env) (s : Shared) (H : Hp) (E : XK) (B : Bs) (hB : B.dn = dn) (hr : Room 1 (A.deeper (envOfC "_law_is_right" (defScope s__law_is_right) s.heap.objs.size f cdv))) : DSs (cxOf CX0 P w K mg base N__law_is_right "_law_is_right" (defScope s__law_is_right) f cdv A outer s H E).nox B (defBody s__law_is_right) (T__law_is_right S__law_is_integer) := by
  subst hB
  have nd := sc__law_is_right.nd
  exact (dss_cons (ds_if (dt_w (dw_or (dt_not (dt_val (de_isi (ty := "tuple") rfl G.f_isinstance rfl G.f_tuple boot_tuple (by decide) (by decide) (dr_var (i := 1))))) (dw_or (dt_cmp (op_notInAll (rm65 hr)) (by rfl) ok_NotIn (dr_of_de (de_cb ok_len (pe_callB call_len (by rfl) G.f_len boot_len (pa_sz (db_cons (dr_var (i := 1)) db_nil))))) (dr_of_de (de_tup (da_cons de_int (da_cons de_int da_nil))))) (dw_or1 (dt_not (dt_val (de_isi (ty := "str") rfl G.f_isinstance rfl G.f_str boot_str (by decide) (by decide) (dr_ix (rm1 hr) (dr_var (i := 1)) (dr_of_de de_int))))))))) (dss_one (ds_ret de_bl)) dss_nil) (dss_cons (ds_if (dt_cmp (op_eqD (rm64 hr)) (by rfl) ok_Eq (dr_of_de (de_cb ok_len (pe_callB call_len (by rfl) G.f_len boot_len (pa_sz (db_cons (dr_var (i := 1)) db_nil))))) (dr_of_de de_int)) (dss_one (ds_ret (de_and (de_cmp (op_eqD (rm64 hr)) (by rfl) ok_Eq (dr_ix (rm1 hr) (dr_var (i := 1)) (dr_of_de de_int)) (dr_of_de de_str)) (de_one (de_cmp (op_eqD (rm64 hr)) (by rfl) ok_Eq (dr_ix (rm1 hr) (dr_var (i := 0)) (dr_of_de de_str)) (dr_of_de (de_lst da_nil))))))) dss_nil) (dss_cons (ds_if (dt_w (dw_or (dt_cmp (op_neD (rm64 hr)) (by rfl) ok_Ne (dr_ix (rm1 hr) (dr_var (i := 1)) (dr_of_de de_int)) (dr_of_de de_str)) (dw_or1 (dt_cmp (op_neD (rm64 hr)) (by rfl) ok_Ne (dr_of_de (de_lc (pe_lc (own := [(("at" : Str), 2)]) rfl nd (dib_seq (dr_of_de (de_sl (dr_var (i := 1)) (do_some (dr_of_de de_int)) do_none))) (blkOk_by (by kernel_rfl)) (fun _ _ _ _ _ => (dg_name (i := 2) nd)) (fun _ _ _ _ _ => (dts_one (dt_not (dt_val (c__law_is_integer.de hr (by decide) rfl (da_cons (de_var (i := 2)) (da_cons de_int (da_cons (de_cb ok_len (pe_callB call_len (by rfl) G.f_len boot_len (pa_sz (db_cons (dr_ix (rm1 hr) (dr_var (i := 0)) (dr_of_de de_str)) db_nil)))) da_nil)))))))) (fun _ _ _ _ _ => de_int)))) (dr_of_de (de_lst da_nil)))))) (dss_one (ds_ret de_bl)) dss_nil) (dss_one (ds_ret (de_cmp (op_inAll (rm65 hr)) (by rfl) ok_In (dr_of_de (de_tup (da_cons (de_of_dr (dr_ix (rm1 hr) (dr_var (i := 1)) (dr_of_de de_int))) (da_cons (de_of_dr (dr_ix (rm1 hr) (dr_var (i := 1)) (dr_of_de de_int))) da_nil)))) (dr_ix (rm1 hr) (dr_var (i := 0)) (dr_of_de de_str))))))))
abbrev N__law_holds : List Str := [("world" : Str), ("case" : Str), ("thing" : Str), ("named" : Str), ("due" : Str), ("book" : Str)]
abbrev P__law_holds : List Str := [("world" : Str), ("case" : Str), ("thing" : Str), ("named" : Str)]
theorem sc__law_holds : FnScope N__law_holds P__law_holds (defScope s__law_holds) := ⟨rfl, rfl, rfl, by decide +kernel, rfl, by decide +kernel, by decide +kernel⟩
def T__law_holds (S__law_is_right : FS) (S__law_same : FS) (S_echo_holds : FS) : XS := (sSeq (sPar [4, 5] (xCons (xCall S__law_is_right (xCons (xVar 1) (xCons (xVar 2) xNil))) (xCons (xFlat (xIx (xVarR 0) (xC (.str ("book" : Str))))) xNil))) (sSeq (sIf (tTru (xVarR 3)) (sRet (xCall S__law_same (xCons (xCallK S_echo_holds 4 [3, 2, 1, 0] (xCons (xVar 2) (xCons (xFlat (xIx (xVarR 1) (xC (.str ("asks" : Str))))) (xCons (xFlat (xIx (xVarR 1) (xC (.str ("deeds" : Str))))) (xCons (xVar 5) xNil))))) (xCons (xVar 4) xNil)))) sNext) (sRet (xCall S__law_same (xCons (xCall S_echo_holds (xCons (xVar 5) (xCons (xFlat (xIx (xVarR 1) (xC (.str ("deeds" : Str))))) (xCons (xFlat (xIx (xVarR 1) (xC (.str ("asks" : Str))))) (xCons (xVar 2) xNil))))) (xCons (xVar 4) xNil))))))
theorem b__law_holds {P : Program} {w : World} {K : PySem.W.Frag} {mg : Str → Option Value} {base : Heap} {dn : Dn} {f : Addr}{ S__law_is_right S__law_same S_echo_holds : FS}  (G : Gs K mg) (c__law_is_right : Cal P w K mg base dn 2 "_law_is_right" s__law_is_right P__law_is_right S__law_is_right) (c__law_same : Cal P w K mg base dn 6 "_law_same" s__law_same P__law_same S__law_same) (c_echo_holds : Cal P w K mg base dn 10 "echo_holds" s_echo_holds P_echo_holds S_echo_holds) (cdv : Value) (A : Around) (outer : List Env) (s : Shared) (H : Hp) (E : XK) (B : Bs) (hB : B.dn = dn) (hr : Room 10 (A.deeper (envOfC "_law_holds" (defScope s__law_holds) s.heap.objs.size f cdv))) : DSs (cxOf CX0 P w K mg base N__law_holds "_law_holds" (defScope s__law_holds) f cdv A outer s H E).nox B (defBody s__law_holds) (T__law_holds S__law_is_right S__law_same S_echo_holds) := by
  subst hB
  have nd := sc__law_holds.nd
  exact (dss_cons (ds_par2 (ps_par (i := 4) (j := 5) rfl nd rfl rfl (by decide) rfl rfl (da_cons (c__law_is_right.de hr (by decide) rfl (da_cons (de_var (i := 1)) (da_cons (de_var (i := 2)) da_nil))) (da_cons (de_of_dr (dr_ix (rm1 hr) (dr_var (i := 0)) (dr_of_de de_str))) da_nil)) rfl)) (dss_cons (ds_if (dt_truth (dr_var (i := 3))) (dss_one (ds_ret (c__law_same.de hr (by decide) rfl (da_cons (c_echo_holds.deK (ks := [("thing" : Str), ("asks" : Str), ("script" : Str), ("book" : Str)]) (is := [3, 2, 1, 0]) hr (by decide) rfl (fun _ _ _ _ _ _ ws hl => match ws, hl with | [_, _, _, _], _ => rfl) rfl rfl (dk_cons (de_var (i := 2)) (dk_cons (de_of_dr (dr_ix (rm1 hr) (dr_var (i := 1)) (dr_of_de de_str))) (dk_cons (de_of_dr (dr_ix (rm1 hr) (dr_var (i := 1)) (dr_of_de de_str))) (dk_cons (de_var (i := 5)) dk_nil))))) (da_cons (de_var (i := 4)) da_nil))))) dss_nil) (dss_one (ds_ret (c__law_same.de hr (by decide) rfl (da_cons (c_echo_holds.de hr (by decide) rfl (da_cons (de_var (i := 5)) (da_cons (de_of_dr (dr_ix (rm1 hr) (dr_var (i := 1)) (dr_of_de de_str))) (da_cons (de_of_dr (dr_ix (rm1 hr) (dr_var (i := 1)) (dr_of_de de_str))) (da_cons (de_var (i := 2)) da_nil))))) (da_cons (de_var (i := 4)) da_nil)))))))
abbrev N__law_things : List Str := [("deck" : Str), ("case" : Str), ("many" : Str), ("found" : Str), ("go" : Str), ("i" : Str), ("at" : Str)]
abbrev P__law_things : List Str := [("deck" : Str), ("case" : Str)]
theorem sc__law_things : FnScope N__law_things P__law_things (defScope s__law_things) := ⟨rfl, rfl, rfl, by decide +kernel, rfl, by decide +kernel, by decide +kernel⟩
def T__law_things (S__law_draw : FS) (S__law_pick : FS) : XS := (sSeq (sSet 2 (xCB cLen (xCons (xIx (xVarR 1) (xC (.str ("deeds" : Str)))) xNil))) (sSeq (sSet 3 (xLst (xCons (xTup (xCons (xC (.str ("firm" : Str))) xNil)) (xCons (xTup (xCons (xC (.str ("firm" : Str))) (xCons (xTup xNil) xNil))) (xCons (xTup (xCons (xC (.str ("firm" : Str))) (xCons (xC (.int 0)) (xCons (xC (.int 1)) xNil)))) (xCons (xFzE (xLst (xCons (xC (.str ("firm" : Str))) xNil))) (xCons (xC (.str ("firm" : Str))) (xCons (xC .none) (xCons (xTup xNil) (xCons (xTup (xCons (xC (.str ("echo" : Str))) xNil)) xNil)))))))))) (sSeq (sFor (xRange1 (xCons (xC (.int 6)) xNil)) (gNm 4) (sSeq (sPar [5, 6] (xCons (xCall S__law_draw (xCons (xVar 0) (xCons (x2 cAdd (xVarR 2) (xC (.int 1))) xNil))) (xCons (xCall S__law_draw (xCons (xVar 0) (xCons (x2 cAdd (xVarR 2) (xC (.int 2))) xNil))) xNil))) (sSeq (sApp 3 (xTup (xCons (xC (.str ("echo" : Str))) (xCons (xVar 5) (xCons (xVar 6) xNil))))) (sApp 3 (xCall S__law_pick (xCons (xVar 0) (xCons (xLst (xCons (xTup (xCons (xC (.str ("echo" : Str))) (xCons (xVar 6) (xCons (xVar 5) xNil)))) (xCons (xTup (xCons (xC (.str ("echo" : Str))) (xCons (xVar 5) (xCons (xVar 5) xNil)))) (xCons (xTup (xCons (xC (.str ("echo" : Str))) (xCons (x1 cNeg (xC (.int 1))) (xCons (xVar 6) xNil)))) (xCons (xTup (xCons (xC (.str ("echo" : Str))) (xCons (xVar 5) (xCons (x2 cAdd (xVarR 2) (xC (.int 1))) xNil)))) xNil))))) xNil))))))) (sSeq (sIf (tBl (x2 cNe (xIx (xVarR 1) (xC (.str ("breaking" : Str)))) (xLst xNil))) (sSeq (sAsg (xCall S__law_pick (xCons (xVar 0) (xCons (xFlat (xIx (xVarR 1) (xC (.str ("breaking" : Str))))) xNil))) (gTp 2 (gC (gNm 5) (gC (gNm 6) gN0)))) (sSeq (sExt 3 (xLst (xCons (xTup (xCons (xC (.str ("echo" : Str))) (xCons (xVar 5) (xCons (xVar 6) xNil)))) (xCons (xTup (xCons (xC (.str ("echo" : Str))) (xCons (x2 (cI0 fun i j => i - j) (xVarR 5) (xC (.int 1))) (xCons (xVar 6) xNil)))) (xCons (xTup (xCons (xC (.str ("echo" : Str))) (xCons (xVar 5) (xCons (x2 (cI0 fun i j => i - j) (xVarR 6) (xC (.int 1))) xNil)))) (xCons (xTup (xCons (xC (.str ("echo" : Str))) (xCons (x2 cAdd (xVarR 5) (xC (.int 1))) (xCons (xVar 6) xNil)))) xNil)))))) (sSeq (sExt 3 (xLst (xCons (xTup (xCons (xC (.str ("echo" : Str))) (xCons (xVar 5) (xCons (x2 cAdd (xVarR 6) (xC (.int 1))) xNil)))) (xCons (xFzE (xLst (xCons (xC (.str ("echo" : Str))) (xCons (xVar 5) (xCons (xVar 6) xNil))))) (xCons (xTup (xCons (xC (.str ("echo" : Str))) (xCons (xVar 5) (xCons (xVar 6) (xCons (xTup xNil) xNil))))) (xCons (xTup (xCons (xC (.str ("echo" : Str))) (xCons (xTup (xCons (xVar 5) (xCons (xVar 6) xNil))) xNil))) (xCons (xTup (xCons (xVar 5) (xCons (xVar 6) xNil))) xNil))))))) (sSeq (sExt 3 (xLst (xCons (xTup (xCons (xC (.str ("echo" : Str))) (xCons (x2 cEq (xVarR 5) (xC (.int 1))) (xCons (xVar 6) xNil)))) (xCons (xTup (xCons (xC (.str ("echo" : Str))) (xCons (xVar 5) (xCons (x2 cEq (xVarR 6) (xC (.int 1))) xNil)))) (xCons (xTup (xCons (xC (.str ("echos" : Str))) (xCons (xVar 5) (xCons (xVar 6) xNil)))) (xCons (xTup (xCons (xC (.str ("echo" : Str))) (xCons (xCB cStr (xCons (xVarR 5) xNil)) (xCons (xVar 6) xNil)))) xNil)))))) (sExt 3 (xLst (xCons (xTup (xCons (xC (.str ("echo" : Str))) (xCons (xVar 5) (xCons (xC .none) xNil)))) (xCons (xTup (xCons (xC (.str ("echo" : Str))) (xCons (xVar 6) (xCons (xVar 6) xNil)))) xNil)))))))) sNext) (sSeq (sIf (tBl (x2 (cB0 fun i j => decide (i < j)) (xVarR 2) (xC (.int 6)))) (sFor (xRange1 (xCons (xVarR 2) xNil)) (gNm 5) (sExt 3 (xLC (xRange1 (xCons (x2 cAdd (xVarR 2) (xC (.int 2))) xNil)) (gNm 6) uYes (xTup (xCons (xC (.str ("echo" : Str))) (xCons (xVar 5) (xCons (xVar 6) xNil)))) [6]))) sNext) (sRetV 3))))))
theorem b__law_things {P : Program} {w : World} {K : PySem.W.Frag} {mg : Str → Option Value} {base : Heap} {dn : Dn} {f : Addr}{ S__law_draw S__law_pick : FS}  (G : Gs K mg) (c__law_draw : Cal P w K mg base dn 1 "_law_draw" s__law_draw P__law_draw S__law_draw) (c__law_pick : Cal P w K mg base dn 2 "_law_pick" s__law_pick P__law_pick S__law_pick) (cdv : Value) (A : Around) (outer : List Env) (s : Shared) (H : Hp) (E : XK) (B : Bs) (hB : B.dn = dn) (hr : Room 2 (A.deeper (envOfC "_law_things" (defScope s__law_things) s.heap.objs.size f cdv))) : DSs (cxOf CX0 P w K mg base N__law_things "_law_things" (defScope s__law_things) f cdv A outer s H E).nox B (defBody s__law_things) (T__law_things S__law_draw S__law_pick) := by
  subst hB
  have nd := sc__law_things.nd
  exact (dss_cons (ds_set (i := 2) nd (de_cb ok_len (pe_callB call_len (by rfl) G.f_len boot_len (pa_sz (db_cons (dr_ix (rm1 hr) (dr_var (i := 1)) (dr_of_de de_str)) db_nil))))) (dss_cons (ds_set (i := 3) nd (de_lst (da_cons (de_tup (da_cons de_str da_nil)) (da_cons (de_tup (da_cons de_str (da_cons (de_tup da_nil) da_nil))) (da_cons (de_tup (da_cons de_str (da_cons de_int (da_cons de_int da_nil)))) (da_cons (de_fz (de_lst (da_cons de_str da_nil))) (da_cons de_str (da_cons de_non (da_cons (de_tup da_nil) (da_cons (de_tup (da_cons de_str da_nil)) da_nil)))))))))) (dss_cons (ds_for (ps_for PassesOwn.never rfl (dif_range1 (pi_range1 rfl G.f_range (db_cons (dr_of_de de_int) db_nil))) (dg_name (i := 4) nd) (dss_cons (ds_parN (is := [5, 6]) (n := 2) (ps_asg (pe_tup (da_cons (c__law_draw.de hr (by decide) rfl (da_cons (de_var (i := 0)) (da_cons (de_op op_addAll ok_Add (dr_var (i := 2)) (dr_of_de de_int)) da_nil))) (da_cons (c__law_draw.de hr (by decide) rfl (da_cons (de_var (i := 0)) (da_cons (de_op op_addAll ok_Add (dr_var (i := 2)) (dr_of_de de_int)) da_nil))) da_nil))) (pg_tup rfl (pgs_cons (pg_name (i := 5) nd rfl (by first | exact Or.inl rfl | exact Or.inr rfl)) (pgs_cons (pg_name (i := 6) nd rfl (by first | exact Or.inl rfl | exact Or.inr rfl)) pgs_nil))))) (dss_cons (ds_app (ps_expr (pe_bm PySem.F.plainAttrs_list PySem.F.slot_list_append PySem.F.type_list_append mt_append (pe_var (i := 3) rfl (by first | exact Or.inl rfl | exact Or.inr (Or.inl rfl) | exact Or.inr (Or.inr rfl))) (pa_cons (de_tup (da_cons de_str (da_cons (de_var (i := 5)) (da_cons (de_var (i := 6)) da_nil)))) pa_nil)))) (dss_one (ds_app (ps_expr (pe_bm PySem.F.plainAttrs_list PySem.F.slot_list_append PySem.F.type_list_append mt_append (pe_var (i := 3) rfl (by first | exact Or.inl rfl | exact Or.inr (Or.inl rfl) | exact Or.inr (Or.inr rfl))) (pa_cons (c__law_pick.de hr (by decide) rfl (da_cons (de_var (i := 0)) (da_cons (de_lst (da_cons (de_tup (da_cons de_str (da_cons (de_var (i := 6)) (da_cons (de_var (i := 5)) da_nil)))) (da_cons (de_tup (da_cons de_str (da_cons (de_var (i := 5)) (da_cons (de_var (i := 5)) da_nil)))) (da_cons (de_tup (da_cons de_str (da_cons (de_un un_neg ok_Neg (dr_of_de de_int)) (da_cons (de_var (i := 6)) da_nil)))) (da_cons (de_tup (da_cons de_str (da_cons (de_var (i := 5)) (da_cons (de_op op_addAll ok_Add (dr_var (i := 2)) (dr_of_de de_int)) da_nil)))) da_nil))))) da_nil))) pa_nil))))))))) (dss_cons (ds_if (dt_cmp (op_neD (rm64 hr)) (by rfl) ok_Ne (dr_ix (rm1 hr) (dr_var (i := 1)) (dr_of_de de_str)) (dr_of_de (de_lst da_nil))) (dss_cons (ds_asg (c__law_pick.de hr (by decide) rfl (da_cons (de_var (i := 0)) (da_cons (de_of_dr (dr_ix (rm1 hr) (dr_var (i := 1)) (dr_of_de de_str))) da_nil))) (dg_tup rfl (dgs_cons (dg_name (i := 5) nd) (dgs_cons (dg_name (i := 6) nd) dgs_nil)))) (dss_cons (ds_ext (ps_expr (pe_bm PySem.F.plainAttrs_list PySem.F.slot_list_extend PySem.F.type_list_extend mt_extend (pe_var (i := 3) rfl (by first | exact Or.inl rfl | exact Or.inr (Or.inl rfl) | exact Or.inr (Or.inr rfl))) (pa_cons (de_lst (da_cons (de_tup (da_cons de_str (da_cons (de_var (i := 5)) (da_cons (de_var (i := 6)) da_nil)))) (da_cons (de_tup (da_cons de_str (da_cons (de_op op_sub ok_I0 (dr_var (i := 5)) (dr_of_de de_int)) (da_cons (de_var (i := 6)) da_nil)))) (da_cons (de_tup (da_cons de_str (da_cons (de_var (i := 5)) (da_cons (de_op op_sub ok_I0 (dr_var (i := 6)) (dr_of_de de_int)) da_nil)))) (da_cons (de_tup (da_cons de_str (da_cons (de_op op_addAll ok_Add (dr_var (i := 5)) (dr_of_de de_int)) (da_cons (de_var (i := 6)) da_nil)))) da_nil))))) pa_nil)))) (dss_cons (ds_ext (ps_expr (pe_bm PySem.F.plainAttrs_list PySem.F.slot_list_extend PySem.F.type_list_extend mt_extend (pe_var (i := 3) rfl (by first | exact Or.inl rfl | exact Or.inr (Or.inl rfl) | exact Or.inr (Or.inr rfl))) (pa_cons (de_lst (da_cons (de_tup (da_cons de_str (da_cons (de_var (i := 5)) (da_cons (de_op op_addAll ok_Add (dr_var (i := 6)) (dr_of_de de_int)) da_nil)))) (da_cons (de_fz (de_lst (da_cons de_str (da_cons (de_var (i := 5)) (da_cons (de_var (i := 6)) da_nil))))) (da_cons (de_tup (da_cons de_str (da_cons (de_var (i := 5)) (da_cons (de_var (i := 6)) (da_cons (de_tup da_nil) da_nil))))) (da_cons (de_tup (da_cons de_str (da_cons (de_tup (da_cons (de_var (i := 5)) (da_cons (de_var (i := 6)) da_nil))) da_nil))) (da_cons (de_tup (da_cons (de_var (i := 5)) (da_cons (de_var (i := 6)) da_nil))) da_nil)))))) pa_nil)))) (dss_cons (ds_ext (ps_expr (pe_bm PySem.F.plainAttrs_list PySem.F.slot_list_extend PySem.F.type_list_extend mt_extend (pe_var (i := 3) rfl (by first | exact Or.inl rfl | exact Or.inr (Or.inl rfl) | exact Or.inr (Or.inr rfl))) (pa_cons (de_lst (da_cons (de_tup (da_cons de_str (da_cons (de_cmp (op_eqD (rm64 hr)) (by rfl) ok_Eq (dr_var (i := 5)) (dr_of_de de_int)) (da_cons (de_var (i := 6)) da_nil)))) (da_cons (de_tup (da_cons de_str (da_cons (de_var (i := 5)) (da_cons (de_cmp (op_eqD (rm64 hr)) (by rfl) ok_Eq (dr_var (i := 6)) (dr_of_de de_int)) da_nil)))) (da_cons (de_tup (da_cons de_str (da_cons (de_var (i := 5)) (da_cons (de_var (i := 6)) da_nil)))) (da_cons (de_tup (da_cons de_str (da_cons (de_cb ok_str (pe_callTy call_str_int (by rfl) G.f_str boot_str (pa_sz (db_cons (dr_var (i := 5)) db_nil)))) (da_cons (de_var (i := 6)) da_nil)))) da_nil))))) pa_nil)))) (dss_one (ds_ext (ps_expr (pe_bm PySem.F.plainAttrs_list PySem.F.slot_list_extend PySem.F.type_list_extend mt_extend (pe_var (i := 3) rfl (by first | exact Or.inl rfl | exact Or.inr (Or.inl rfl) | exact Or.inr (Or.inr rfl))) (pa_cons (de_lst (da_cons (de_tup (da_cons de_str (da_cons (de_var (i := 5)) (da_cons de_non da_nil)))) (da_cons (de_tup (da_cons de_str (da_cons (de_var (i := 6)) (da_cons (de_var (i := 6)) da_nil)))) da_nil))) pa_nil))))))))) dss_nil) (dss_cons (ds_if (dt_cmp op_lt (by rfl) ok_B0 (dr_var (i := 2)) (dr_of_de de_int)) (dss_one (ds_for (ps_for PassesOwn.never rfl (dif_range1 (pi_range1 rfl G.f_range (db_cons (dr_var (i := 2)) db_nil))) (dg_name (i := 5) nd) (dss_one (ds_ext (ps_expr (pe_bm PySem.F.plainAttrs_list PySem.F.slot_list_extend PySem.F.type_list_extend mt_extend (pe_var (i := 3) rfl (by first | exact Or.inl rfl | exact Or.inr (Or.inl rfl) | exact Or.inr (Or.inr rfl))) (pa_cons (de_lc (pe_lc (own := [(("at" : Str), 6)]) rfl nd (dib_of (dif_range1 (pi_range1 rfl G.f_range (db_cons (dr_of_de (de_op op_addAll ok_Add (dr_var (i := 2)) (dr_of_de de_int))) db_nil)))) (blkOk_by (by kernel_rfl)) (fun _ _ _ _ _ => (dg_name (i := 6) nd)) (fun _ _ _ _ _ => dts_nil) (fun _ _ _ _ _ => (de_tup (da_cons de_str (da_cons (de_var (i := 5)) (da_cons (de_var (i := 6)) da_nil))))))) pa_nil)))))))) dss_nil) (dss_one (ds_retv (i := 3) (ps_ret (pe_var rfl (by first | exact Or.inl rfl | exact Or.inr (Or.inl rfl) | exact Or.inr (Or.inr rfl)))))))))))
abbrev N_law : List Str := [("script" : Str), ("deck" : Str), ("world" : Str), ("book" : Str), ("deeds" : Str), ("asks" : Str), ("calm" : Str), ("bad" : Str), ("case" : Str), ("told" : Str), ("things" : Str), ("at" : Str), ("thing" : Str)]
abbrev P_law : List Str := [("script" : Str)]
theorem sc_law : FnScope N_law P_law (defScope s_law) := ⟨rfl, rfl, rfl, by decide +kernel, rfl, by decide +kernel, by decide +kernel⟩
def T_law_rest (S__law_deck : FS) (S__law_world : FS) (S__law_book : FS) (S__law_echoed : FS) (S__law_pick : FS) (S__law_met_asks : FS) (S__law_draw : FS) (S__law_calm : FS) (S__law_meets : FS) (S__law_bad : FS) (S__law_state : FS) (S__law_breaking : FS) (S_judge_echo : FS) (S__law_is_right : FS) (S__law_is_harmless : FS) (S_meets_asks : FS) (S__law_again : FS) (S__law_things : FS) (S__law_holds : FS) (S__law_same : FS) : XS := (sSeq (sSet 2 (xCall S__law_world (xCons (xCall S__law_book (xCons (xVar 1) (xCons (xLst (xCons (xC (.int 2)) (xCons (xC (.int 2)) (xCons (xC (.int 3)) (xCons (xC (.int 1)) (xCons (xC (.int 2)) (xCons (xC (.int 3)) (xCons (xC (.int 2)) (xCons (xC (.int 3)) (xCons (xC (.int 4)) (xCons (xC (.int 2)) (xCons (xC (.int 3)) (xCons (xC (.int 5)) xNil))))))))))))) xNil))) xNil))) (sSeq (sFz [2] (sPar [3, 4] (xCons (xFlat (xIx (xVarR 2) (xC (.str ("book" : Str))))) (xCons (xCall S__law_echoed (xCons (xVar 1) (xCons (xVar 2) (xCons (xCall S__law_pick (xCons (xVar 1) (xCons (xLst (xCons (xC (.int 9)) (xCons (xC (.int 6)) (xCons (xC (.int 14)) (xCons (xC (.int 24)) xNil))))) xNil))) xNil)))) xNil)))) (sSeq (sFz [2] (sSet 5 (xCall S__law_met_asks (xCons (xVar 1) (xCons (xVar 2) (xCons (xVar 4) (xCons (xC (.int 8)) xNil))))))) (sSeq (sIf (tBl (x2 cEq (xCall S__law_draw (xCons (xVar 1) (xCons (xC (.int 3)) xNil))) (xC (.int 0)))) (sSeq (sFz [2] (sSet 5 (xIf (tBl (x2 cEq (xCall S__law_draw (xCons (xVar 1) (xCons (xC (.int 3)) xNil))) (xC (.int 0)))) (xCall S__law_met_asks (xCons (xVar 1) (xCons (xVar 2) (xCons (xTup xNil) (xCons (xC (.int 5)) xNil))))) (xVar 5)))) (sSeq (sFz [2] (sSet 6 (xCall S__law_calm (xCons (xVar 1) (xCons (xVar 2) (xCons (xVar 5) xNil)))))) (sFz [2] (sSet 4 (xIf (tBl (xCall S__law_meets (xCons (xCall S__law_bad (xCons (xVar 2) (xCons (xVar 5) xNil))) (xCons (xCall S__law_state (xCons (xVar 2) (xCons (xVar 6) xNil))) xNil)))) (xVar 6) (xVar 4)))))) sNext) (sSeq (sFz [2] (sSet 7 (xCall S__law_bad (xCons (xVar 2) (xCons (xVar 5) xNil))))) (sSeq (sFz [7, 2] (sIf (tNotX (tBl (xCall S__law_meets (xCons (xVar 7) (xCons (xCall S__law_state (xCons (xVar 2) (xCons (xVar 4) xNil))) xNil))))) (sSeq (sFz [2] (sSet 5 (xCall S__law_met_asks (xCons (xVar 1) (xCons (xVar 2) (xCons (xVar 4) (xCons (xC (.int 5)) xNil))))))) (sFz [2] (sSet 7 (xCall S__law_bad (xCons (xVar 2) (xCons (xVar 5) xNil)))))) sNext)) (sSeq (sFz [2, 7] (sSet 8 (xDisp [(("deeds" : Str), (xVar 4)), (("asks" : Str), (xVar 5)), (("breaking" : Str), (xCall S__law_breaking (xCons (xVar 2) (xCons (xVar 4) (xCons (xVar 7) xNil)))))]))) (sSeq (sSet 9 (xCall S_judge_echo (xCons (xVar 3) (xCons (xVar 4) (xCons (xVar 5) xNil))))) (sSeq (sFz [8] (sIf (tOrX (tNotX (tBl (xCall S__law_is_right (xCons (xVar 8) (xCons (xVar 9) xNil))))) (tBl (x2 cNe (x2 cEq (xIx (xVarR 9) (xC (.int 0))) (xC (.str ("firm" : Str)))) (xCall S__law_is_harmless (xCons (xVar 4) (xCons (xVar 5) xNil)))))) (sRet (xC (.bool false))) sNext)) (sSeq (sIf (tAndX (tBl (x2 cEq (xIx (xVarR 9) (xC (.int 0))) (xC (.str ("echo" : Str))))) (tBl (x2 (cIs true) (xCall S_meets_asks (xCons (xVar 3) (xCons (xCall S__law_again (xCons (xVar 4) (xCons (xFlat (xIx (xVarR 9) (xC (.int 1)))) (xCons (xFlat (xIx (xVarR 9) (xC (.int 2)))) xNil)))) (xCons (xVar 5) xNil)))) (xC (.bool false))))) (sRet (xC (.bool false))) sNext) (sSeq (sFz [8] (sSet 10 (x2 cAdd (xLst (xCons (xVar 9) xNil)) (xCall S__law_things (xCons (xVar 1) (xCons (xVar 8) xNil)))))) (sSeq (sFz [2, 8] (sIf (tBl (x2 cNe (xLC (xEnum (xCons (xVarR 10) xNil)) (gTp 2 (gC (gNm 11) (gC (gNm 12) gN0))) (tNotX (tBl (xCall S__law_holds (xCons (xVar 2) (xCons (xVar 8) (xCons (xVar 12) (xCons (x2 cEq (x2 (cI (fun _ j => 0 < j) fun i j => i % j) (xCB cInt (xCons (xVarR 11) xNil)) (xC (.int 3))) (xC (.int 0))) xNil))))))) (xC (.int 1)) [11, 12]) (xLst xNil))) (sRet (xC (.bool false))) sNext)) (sSeq (sIf (tBl (x2 (cIs true) (xCall S_meets_asks (xCons (xVar 3) (xCons (xVar 4) (xCons (xVar 5) xNil)))) (xC (.bool true)))) (sRet (xC (.bool false))) sNext) (sRet (xCall S__law_same (xCons (xCallK S_judge_echo 3 [2, 1, 0] (xCons (xVar 5) (xCons (xVar 4) (xCons (xVar 3) xNil)))) (xCons (xVar 9) xNil)))))))))))))))))
def T_law (S__law_deck : FS) (S__law_world : FS) (S__law_book : FS) (S__law_echoed : FS) (S__law_pick : FS) (S__law_met_asks : FS) (S__law_draw : FS) (S__law_calm : FS) (S__law_meets : FS) (S__law_bad : FS) (S__law_state : FS) (S__law_breaking : FS) (S_judge_echo : FS) (S__law_is_right : FS) (S__law_is_harmless : FS) (S_meets_asks : FS) (S__law_again : FS) (S__law_things : FS) (S__law_holds : FS) (S__law_same : FS) : XS := sSeq (sSet 1 (xCall S__law_deck (xCons (xVar 0) (xCons (xC (.int 89)) xNil)))) (sDeck dkn 1 (T_law_rest S__law_deck S__law_world S__law_book S__law_echoed S__law_pick S__law_met_asks S__law_draw S__law_calm S__law_meets S__law_bad S__law_state S__law_breaking S_judge_echo S__law_is_right S__law_is_harmless S_meets_asks S__law_again S__law_things S__law_holds S__law_same))
theorem b_law_rest {P : Program} {w : World} {K : PySem.W.Frag} {mg : Str → Option Value} {base : Heap} {dn : Dn} {f : Addr} {S__law_deck : FS} {S__law_world : FS} {S__law_book : FS} {S__law_echoed : FS} {S__law_pick : FS} {S__law_met_asks : FS} {S__law_draw : FS} {S__law_calm : FS} {S__law_meets : FS} {S__law_bad : FS} {S__law_state : FS} {S__law_breaking : FS} {S_judge_echo : FS} {S__law_is_right : FS} {S__law_is_harmless : FS} {S_meets_asks : FS} {S__law_again : FS} {S__law_things : FS} {S__law_holds : FS} {S__law_same : FS} (G : Gs K mg) (c__law_deck : Cal P w K mg base dn 1 "_law_deck" s__law_deck P__law_deck S__law_deck) (c__law_world : Cal P w K mg base dn 1 "_law_world" s__law_world P__law_world S__law_world) (c__law_book : Cal P w K mg base dn 3 "_law_book" s__law_book P__law_book S__law_book) (c__law_echoed : Cal P w K mg base dn 4 "_law_echoed" s__law_echoed P__law_echoed S__law_echoed) (c__law_pick : Cal P w K mg base dn 2 "_law_pick" s__law_pick P__law_pick S__law_pick) (c__law_met_asks : Cal P w K mg base dn 3 "_law_met_asks" s__law_met_asks P__law_met_asks S__law_met_asks) (c__law_draw : Cal P w K mg base dn 1 "_law_draw" s__law_draw P__law_draw S__law_draw) (c__law_calm : Cal P w K mg base dn 4 "_law_calm" s__law_calm P__law_calm S__law_calm) (c__law_meets : Cal P w K mg base dn 1 "_law_meets" s__law_meets P__law_meets S__law_meets) (c__law_bad : Cal P w K mg base dn 1 "_law_bad" s__law_bad P__law_bad S__law_bad) (c__law_state : Cal P w K mg base dn 2 "_law_state" s__law_state P__law_state S__law_state) (c__law_breaking : Cal P w K mg base dn 2 "_law_breaking" s__law_breaking P__law_breaking S__law_breaking) (c_judge_echo : Cal P w K mg base dn 10 "judge_echo" s_judge_echo P_judge_echo S_judge_echo) (c__law_is_right : Cal P w K mg base dn 2 "_law_is_right" s__law_is_right P__law_is_right S__law_is_right) (c__law_is_harmless : Cal P w K mg base dn 1 "_law_is_harmless" s__law_is_harmless P__law_is_harmless S__law_is_harmless) (c_meets_asks : Cal P w K mg base dn 9 "meets_asks" s_meets_asks P_meets_asks S_meets_asks) (c__law_again : Cal P w K mg base dn 1 "_law_again" s__law_again P__law_again S__law_again) (c__law_things : Cal P w K mg base dn 3 "_law_things" s__law_things P__law_things S__law_things) (c__law_holds : Cal P w K mg base dn 11 "_law_holds" s__law_holds P__law_holds S__law_holds) (c__law_same : Cal P w K mg base dn 6 "_law_same" s__law_same P__law_same S__law_same) (cdv : Value) (A : Around) (outer : List Env) (s : Shared) (H : Hp) (E : XK) (B : Bs) (hB : B.dn = dn) (hr : Room 11 (A.deeper (envOfC "law" (defScope s_law) s.heap.objs.size f cdv))) : DSs (cxOf CX0 P w K mg base N_law "law" (defScope s_law) f cdv A outer s H E).nox B ((defBody s_law).tail) (T_law_rest S__law_deck S__law_world S__law_book S__law_echoed S__law_pick S__law_met_asks S__law_draw S__law_calm S__law_meets S__law_bad S__law_state S__law_breaking S_judge_echo S__law_is_right S__law_is_harmless S_meets_asks S__law_again S__law_things S__law_holds S__law_same) := by
  subst hB
  have nd := sc_law.nd
  exact (dss_cons (ds_set (i := 2) nd (c__law_world.de hr (by decide) rfl (da_cons (c__law_book.de hr (by decide) rfl (da_cons (de_var (i := 1)) (da_cons (de_lst (da_cons de_int (da_cons de_int (da_cons de_int (da_cons de_int (da_cons de_int (da_cons de_int (da_cons de_int (da_cons de_int (da_cons de_int (da_cons de_int (da_cons de_int (da_cons de_int da_nil))))))))))))) da_nil))) da_nil))) (dss_cons (ds_fz [2] (ds_par2 (ps_par (i := 3) (j := 4) rfl nd rfl rfl (by decide) rfl rfl (da_cons (de_of_dr (dr_ix (rm1 hr) (dr_var (i := 2)) (dr_of_de de_str))) (da_cons (c__law_echoed.de hr (by decide) rfl (da_cons (de_var (i := 1)) (da_cons (de_var (i := 2)) (da_cons (c__law_pick.de hr (by decide) rfl (da_cons (de_var (i := 1)) (da_cons (de_lst (da_cons de_int (da_cons de_int (da_cons de_int (da_cons de_int da_nil))))) da_nil))) da_nil)))) da_nil)) rfl))) (dss_cons (ds_fz [2] (ds_set (i := 5) nd (c__law_met_asks.de hr (by decide) rfl (da_cons (de_var (i := 1)) (da_cons (de_var (i := 2)) (da_cons (de_var (i := 4)) (da_cons de_int da_nil))))))) (dss_cons (ds_if (dt_cmp (op_eqD (rm64 hr)) (by rfl) ok_Eq (dr_of_de (c__law_draw.de hr (by decide) rfl (da_cons (de_var (i := 1)) (da_cons de_int da_nil)))) (dr_of_de de_int)) (dss_cons (ds_fz [2] (ds_set (i := 5) nd (de_if (dt_cmp (op_eqD (rm64 hr)) (by rfl) ok_Eq (dr_of_de (c__law_draw.de hr (by decide) rfl (da_cons (de_var (i := 1)) (da_cons de_int da_nil)))) (dr_of_de de_int)) (c__law_met_asks.de hr (by decide) rfl (da_cons (de_var (i := 1)) (da_cons (de_var (i := 2)) (da_cons (de_tup da_nil) (da_cons de_int da_nil))))) (de_var (i := 5))))) (dss_cons (ds_fz [2] (ds_set (i := 6) nd (c__law_calm.de hr (by decide) rfl (da_cons (de_var (i := 1)) (da_cons (de_var (i := 2)) (da_cons (de_var (i := 5)) da_nil)))))) (dss_one (ds_fz [2] (ds_set (i := 4) nd (de_if (dt_val (c__law_meets.de hr (by decide) rfl (da_cons (c__law_bad.de hr (by decide) rfl (da_cons (de_var (i := 2)) (da_cons (de_var (i := 5)) da_nil))) (da_cons (c__law_state.de hr (by decide) rfl (da_cons (de_var (i := 2)) (da_cons (de_var (i := 6)) da_nil))) da_nil)))) (de_var (i := 6)) (de_var (i := 4)))))))) dss_nil) (dss_cons (ds_fz [2] (ds_set (i := 7) nd (c__law_bad.de hr (by decide) rfl (da_cons (de_var (i := 2)) (da_cons (de_var (i := 5)) da_nil))))) (dss_cons (ds_fz [7, 2] (ds_if (dt_not (dt_val (c__law_meets.de hr (by decide) rfl (da_cons (de_var (i := 7)) (da_cons (c__law_state.de hr (by decide) rfl (da_cons (de_var (i := 2)) (da_cons (de_var (i := 4)) da_nil))) da_nil))))) (dss_cons (ds_fz [2] (ds_set (i := 5) nd (c__law_met_asks.de hr (by decide) rfl (da_cons (de_var (i := 1)) (da_cons (de_var (i := 2)) (da_cons (de_var (i := 4)) (da_cons de_int da_nil))))))) (dss_one (ds_fz [2] (ds_set (i := 7) nd (c__law_bad.de hr (by decide) rfl (da_cons (de_var (i := 2)) (da_cons (de_var (i := 5)) da_nil))))))) dss_nil)) (dss_cons (ds_fz [2, 7] (ds_set (i := 8) nd (de_disp (pps_cons pe_str (de_var (i := 4)) (pps_cons pe_str (de_var (i := 5)) (pps_cons pe_str (c__law_breaking.de hr (by decide) rfl (da_cons (de_var (i := 2)) (da_cons (de_var (i := 4)) (da_cons (de_var (i := 7)) da_nil)))) pps_nil))) (show List.Nodup [("deeds" : Str), ("asks" : Str), ("breaking" : Str)] by decide) (show 3 ≤ 15 by decide) rfl rfl (by simp) (show 3 ≤ 15 by decide)))) (dss_cons (ds_set (i := 9) nd (c_judge_echo.de hr (by decide) rfl (da_cons (de_var (i := 3)) (da_cons (de_var (i := 4)) (da_cons (de_var (i := 5)) da_nil))))) (dss_cons (ds_fz [8] (ds_if (dt_w (dw_or (dt_not (dt_val (c__law_is_right.de hr (by decide) rfl (da_cons (de_var (i := 8)) (da_cons (de_var (i := 9)) da_nil))))) (dw_or1 (dt_cmp (op_neD (rm64 hr)) (by rfl) ok_Ne (dr_of_de (de_cmp (op_eqD (rm64 hr)) (by rfl) ok_Eq (dr_ix (rm1 hr) (dr_var (i := 9)) (dr_of_de de_int)) (dr_of_de de_str))) (dr_of_de (c__law_is_harmless.de hr (by decide) rfl (da_cons (de_var (i := 4)) (da_cons (de_var (i := 5)) da_nil)))))))) (dss_one (ds_ret de_bl)) dss_nil)) (dss_cons (ds_if (dt_w (dw_and (dt_cmp (op_eqD (rm64 hr)) (by rfl) ok_Eq (dr_ix (rm1 hr) (dr_var (i := 9)) (dr_of_de de_int)) (dr_of_de de_str)) (dw_and1 (dt_cmp op_isNotA (by rfl) ok_Is (dr_of_de (c_meets_asks.de hr (by decide) rfl (da_cons (de_var (i := 3)) (da_cons (c__law_again.de hr (by decide) rfl (da_cons (de_var (i := 4)) (da_cons (de_of_dr (dr_ix (rm1 hr) (dr_var (i := 9)) (dr_of_de de_int))) (da_cons (de_of_dr (dr_ix (rm1 hr) (dr_var (i := 9)) (dr_of_de de_int))) da_nil)))) (da_cons (de_var (i := 5)) da_nil))))) (dr_of_de de_bl))))) (dss_one (ds_ret de_bl)) dss_nil) (dss_cons (ds_fz [8] (ds_set (i := 10) nd (de_op op_addAll ok_Add (dr_of_de (de_lst (da_cons (de_var (i := 9)) da_nil))) (dr_of_de (c__law_things.de hr (by decide) rfl (da_cons (de_var (i := 1)) (da_cons (de_var (i := 8)) da_nil))))))) (dss_cons (ds_fz [2, 8] (ds_if (dt_cmp (op_neD (rm64 hr)) (by rfl) ok_Ne (dr_of_de (de_lc (pe_lc (own := [(("at" : Str), 11), (("thing" : Str), 12)]) rfl nd (dib_enum (pi_enumB rfl G.f_enumerate (db_cons (dr_var (i := 10)) db_nil))) (blkOk_by (by kernel_rfl)) (fun _ _ _ _ _ => (dg_tup rfl (dgs_cons (dg_name (i := 11) nd) (dgs_cons (dg_name (i := 12) nd) dgs_nil)))) (fun _ _ _ _ _ => (dts_one (dt_not (dt_val (c__law_holds.de hr (by decide) rfl (da_cons (de_var (i := 2)) (da_cons (de_var (i := 8)) (da_cons (de_var (i := 12)) (da_cons (de_cmp (op_eqD (rm64 hr)) (by rfl) ok_Eq (dr_of_de (de_op op_mod ok_I (dr_of_de (de_cb ok_int (pe_callTy call_int1 (by rfl) G.f_int boot_int (pa_sz (db_cons (dr_var (i := 11)) db_nil))))) (dr_of_de de_int))) (dr_of_de de_int)) da_nil))))))))) (fun _ _ _ _ _ => de_int)))) (dr_of_de (de_lst da_nil))) (dss_one (ds_ret de_bl)) dss_nil)) (dss_cons (ds_if (dt_cmp op_isNotA (by rfl) ok_Is (dr_of_de (c_meets_asks.de hr (by decide) rfl (da_cons (de_var (i := 3)) (da_cons (de_var (i := 4)) (da_cons (de_var (i := 5)) da_nil))))) (dr_of_de de_bl)) (dss_one (ds_ret de_bl)) dss_nil) (dss_one (ds_ret (c__law_same.de hr (by decide) rfl (da_cons (c_judge_echo.deK (ks := [("asks" : Str), ("script" : Str), ("book" : Str)]) (is := [2, 1, 0]) hr (by decide) rfl (fun _ _ _ _ _ _ ws hl => match ws, hl with | [_, _, _], _ => rfl) rfl rfl (dk_cons (de_var (i := 5)) (dk_cons (de_var (i := 4)) (dk_cons (de_var (i := 3)) dk_nil)))) (da_cons (de_var (i := 9)) da_nil))))))))))))))))))
theorem b_law {P : Program} {w : World} {K : PySem.W.Frag} {mg : Str → Option Value} {base : Heap} {dn : Dn} {f : Addr} {S__law_deck : FS} {S__law_world : FS} {S__law_book : FS} {S__law_echoed : FS} {S__law_pick : FS} {S__law_met_asks : FS} {S__law_draw : FS} {S__law_calm : FS} {S__law_meets : FS} {S__law_bad : FS} {S__law_state : FS} {S__law_breaking : FS} {S_judge_echo : FS} {S__law_is_right : FS} {S__law_is_harmless : FS} {S_meets_asks : FS} {S__law_again : FS} {S__law_things : FS} {S__law_holds : FS} {S__law_same : FS} (G : Gs K mg) (c__law_deck : Cal P w K mg base dn 1 "_law_deck" s__law_deck P__law_deck S__law_deck) (c__law_world : Cal P w K mg base dn 1 "_law_world" s__law_world P__law_world S__law_world) (c__law_book : Cal P w K mg base dn 3 "_law_book" s__law_book P__law_book S__law_book) (c__law_echoed : Cal P w K mg base dn 4 "_law_echoed" s__law_echoed P__law_echoed S__law_echoed) (c__law_pick : Cal P w K mg base dn 2 "_law_pick" s__law_pick P__law_pick S__law_pick) (c__law_met_asks : Cal P w K mg base dn 3 "_law_met_asks" s__law_met_asks P__law_met_asks S__law_met_asks) (c__law_draw : Cal P w K mg base dn 1 "_law_draw" s__law_draw P__law_draw S__law_draw) (c__law_calm : Cal P w K mg base dn 4 "_law_calm" s__law_calm P__law_calm S__law_calm) (c__law_meets : Cal P w K mg base dn 1 "_law_meets" s__law_meets P__law_meets S__law_meets) (c__law_bad : Cal P w K mg base dn 1 "_law_bad" s__law_bad P__law_bad S__law_bad) (c__law_state : Cal P w K mg base dn 2 "_law_state" s__law_state P__law_state S__law_state) (c__law_breaking : Cal P w K mg base dn 2 "_law_breaking" s__law_breaking P__law_breaking S__law_breaking) (c_judge_echo : Cal P w K mg base dn 10 "judge_echo" s_judge_echo P_judge_echo S_judge_echo) (c__law_is_right : Cal P w K mg base dn 2 "_law_is_right" s__law_is_right P__law_is_right S__law_is_right) (c__law_is_harmless : Cal P w K mg base dn 1 "_law_is_harmless" s__law_is_harmless P__law_is_harmless S__law_is_harmless) (c_meets_asks : Cal P w K mg base dn 9 "meets_asks" s_meets_asks P_meets_asks S_meets_asks) (c__law_again : Cal P w K mg base dn 1 "_law_again" s__law_again P__law_again S__law_again) (c__law_things : Cal P w K mg base dn 3 "_law_things" s__law_things P__law_things S__law_things) (c__law_holds : Cal P w K mg base dn 11 "_law_holds" s__law_holds P__law_holds S__law_holds) (c__law_same : Cal P w K mg base dn 6 "_law_same" s__law_same P__law_same S__law_same) (cdv : Value) (A : Around) (outer : List Env) (s : Shared) (H : Hp) (E : XK) (B : Bs) (hB : B.dn = dn) (hda : B.da = none) (hk : dn.k = dkn) (hr : Room 11 (A.deeper (envOfC "law" (defScope s_law) s.heap.objs.size f cdv))) : DSs (cxOf CX0 P w K mg base N_law "law" (defScope s_law) f cdv A outer s H E).nox B (defBody s_law) (T_law S__law_deck S__law_world S__law_book S__law_echoed S__law_pick S__law_met_asks S__law_draw S__law_calm S__law_meets S__law_bad S__law_state S__law_breaking S_judge_echo S__law_is_right S__law_is_harmless S_meets_asks S__law_again S__law_things S__law_holds S__law_same) := by
  have nd := sc_law.nd
  have h2 := dss_deck (X := (cxOf CX0 P w K mg base N_law "law" (defScope s_law) f cdv A outer s H E).nox) (i := 1) hda (fun B' hB' => b_law_rest G c__law_deck c__law_world c__law_book c__law_echoed c__law_pick c__law_met_asks c__law_draw c__law_calm c__law_meets c__law_bad c__law_state c__law_breaking c_judge_echo c__law_is_right c__law_is_harmless c_meets_asks c__law_again c__law_things c__law_holds c__law_same cdv A outer s H E B' (hB'.trans hB) hr)
  rw [hB, hk] at h2
  subst hB
  exact dss_cons (ds_set (i := 1) nd (c__law_deck.de hr (by decide) rfl (da_cons (de_var (i := 0)) (da_cons de_int da_nil)))) h2
end L89
set_option maxHeartbeats 1000000
namespace DL
open PySem PySem.Spec PyProof.Rows L2
@[simp] theorem and_as {a b c : Prop} : ((a ∧ b) ∧ c) ↔ (a ∧ (b ∧ c)) := and_assoc
end DL
namespace DL
open PySem PySem.Spec PyProof.Rows L2
section
@[simp] theorem kb1 : kitB "NoneType" "int" = some false := by decide +kernel
@[simp] theorem kb2 : kitB "NoneType" "bool" = some false := by decide +kernel
@[simp] theorem kb3 : kitB "NoneType" "str" = some false := by decide +kernel
@[simp] theorem kb4 : kitB "NoneType" "tuple" = some false := by decide +kernel
@[simp] theorem kb5 : kitB "bool" "int" = some true := by decide +kernel
@[simp] theorem kb6 : kitB "bool" "bool" = some true := by decide +kernel
@[simp] theorem kb7 : kitB "bool" "str" = some false := by decide +kernel
@[simp] theorem kb8 : kitB "bool" "tuple" = some false := by decide +kernel
@[simp] theorem kb9 : kitB "int" "int" = some true := by decide +kernel
@[simp] theorem kb10 : kitB "int" "bool" = some false := by decide +kernel
@[simp] theorem kb11 : kitB "int" "str" = some false := by decide +kernel
@[simp] theorem kb12 : kitB "int" "tuple" = some false := by decide +kernel
@[simp] theorem kb13 : kitB "str" "int" = some false := by decide +kernel
@[simp] theorem kb14 : kitB "str" "bool" = some false := by decide +kernel
@[simp] theorem kb15 : kitB "str" "str" = some true := by decide +kernel
@[simp] theorem kb16 : kitB "str" "tuple" = some false := by decide +kernel
@[simp] theorem kb17 : kitB "tuple" "int" = some false := by decide +kernel
@[simp] theorem kb18 : kitB "tuple" "bool" = some false := by decide +kernel
@[simp] theorem kb19 : kitB "tuple" "str" = some false := by decide +kernel
@[simp] theorem kb20 : kitB "tuple" "tuple" = some true := by decide +kernel
@[simp] theorem kb21 : kitB "list" "int" = some false := by decide +kernel
@[simp] theorem kb22 : kitB "list" "bool" = some false := by decide +kernel
@[simp] theorem kb23 : kitB "list" "str" = some false := by decide +kernel
@[simp] theorem kb24 : kitB "list" "tuple" = some false := by decide +kernel
end
section
variable {ds : List D} {cs : List Cell} {i : Int} {s : Str} {b : Bool}
@[simp] theorem slC_t : slC (.im (.tuple ds)) = some (ds, true) := rfl
@[simp] theorem slC_l : slC (.im (.list ds)) = some (ds, false) := rfl
@[simp] theorem slC_o : slC (.ow (ds.map .im)) = some (ds, false) := by simp [slC]
@[simp] theorem seqF_t : seqF (.im (.tuple ds)) = some ds := rfl
@[simp] theorem seqF_l : seqF (.im (.list ds)) = some ds := rfl
@[simp] theorem seqF_o : seqF (.ow (ds.map .im)) = some ds := by simp [seqF]
@[simp] theorem seqF_0 : seqF (.ow []) = some [] := by simp [seqF]
@[simp] theorem seqD_t : seqD (.im (.tuple ds)) = some ds := rfl
@[simp] theorem seqD_l : seqD (.im (.list ds)) = some ds := rfl
@[simp] theorem seqD_o : seqD (.ow (ds.map .im)) = some ds := by simp [seqD]
@[simp] theorem lenC_t : lenC (.im (.tuple ds)) = some ds.length := rfl
@[simp] theorem lenC_l : lenC (.im (.list ds)) = some ds.length := rfl
@[simp] theorem lenC_o : lenC (.ow cs) = some cs.length := rfl
@[simp] theorem tyC_n : tyC (.im .none) = some "NoneType" := rfl
@[simp] theorem tyC_b : tyC (.im (.bool b)) = some "bool" := rfl
@[simp] theorem tyC_i : tyC (.im (.int i)) = some "int" := rfl
@[simp] theorem tyC_s : tyC (.im (.str s)) = some "str" := rfl
@[simp] theorem tyC_t : tyC (.im (.tuple ds)) = some "tuple" := rfl
@[simp] theorem tyC_l : tyC (.im (.list ds)) = some "list" := rfl
@[simp] theorem tyC_o : tyC (.ow cs) = some "list" := rfl
@[simp] theorem truC_n : truC (.im .none) = some false := rfl
@[simp] theorem truC_b : truC (.im (.bool b)) = some b := rfl
@[simp] theorem truC_i : truC (.im (.int i)) = some (i != 0) := rfl
@[simp] theorem truC_t : truC (.im (.tuple ds)) = some (!ds.isEmpty) := rfl
@[simp] theorem truC_l : truC (.im (.list ds)) = some (!ds.isEmpty) := rfl
@[simp] theorem truC_o : truC (.ow cs) = some (!cs.isEmpty) := rfl
@[simp] theorem ixC_t : ixC (.im (.tuple ds)) (.im (.int i)) = (atI ds i).map .im := rfl
@[simp] theorem ixC_l : ixC (.im (.list ds)) (.im (.int i)) = (atI ds i).map .im := rfl
@[simp] theorem ixC_o : ixC (.ow cs) (.im (.int i)) = atI cs i := rfl
@[simp] theorem ixC_dk {ks : List Key} : ixC (.dk ks cs) (.im (.str s)) = getK ks cs (.inr s) := rfl
@[simp] theorem ixC_fk {ks : List Key} : ixC (.fk ks cs) (.im (.str s)) = getK ks cs (.inr s) := rfl
@[simp] theorem ixC_dki {ks : List Key} : ixC (.dk ks cs) (.im (.int i)) = getK ks cs (.inl i) := rfl
@[simp] theorem ixC_fki {ks : List Key} : ixC (.fk ks cs) (.im (.int i)) = getK ks cs (.inl i) := rfl
@[simp] theorem ixC_dt {ks : List (List Key)} : ixC (.dt ks cs) (.im (.tuple ds)) = (keyDs ds).bind fun k => getK ks cs k := rfl
@[simp] theorem ixC_ft {ks : List (List Key)} : ixC (.ft ks cs) (.im (.tuple ds)) = (keyDs ds).bind fun k => getK ks cs k := rfl
@[simp] theorem fl_im {d : D} : (Cell.im d).flat = true := rfl
@[simp] theorem fl_ow : (Cell.ow cs).flat = false := rfl
@[simp] theorem fl_fk {ks : List Key} : (Cell.fk ks cs).flat = true := rfl
@[simp] theorem fl_ft {ks : List (List Key)} : (Cell.ft ks cs).flat = true := rfl
@[simp] theorem fl_deck : (Cell.deck).flat = true := rfl
@[simp] theorem fl_fn {L : LamI} : (Cell.fn L ds).flat = true := rfl
@[simp] theorem fl_un : (Cell.un).flat = false := rfl
@[simp] theorem toD_im {d : D} : toD (.im d) = some d := by simp [toD]
@[simp] theorem toD_ow : toD (.ow cs) = (toDs cs).map .list := by simp [toD]
@[simp] theorem toDs_nil : toDs [] = some [] := by simp [toDs]
@[simp] theorem toDs_cons {d : D} : toDs (.im d :: cs) = (toDs cs).map (d :: ·) := by
  simp only [toDs, toD]
  cases toDs cs <;> rfl
@[simp] theorem toDs_map : toDs (ds.map .im) = some ds := toDs_im ds
end
section
variable {d : D} {cs : List Cell}
@[simp] theorem frz_im : frz (.im d) = .im d := by simp [frz]
@[simp] theorem frz_dk {ks : List Key} : frz (.dk ks cs) = .fk ks (frzs cs) := by simp [frz]
@[simp] theorem frz_dt {ks : List (List Key)} : frz (.dt ks cs) = .ft ks (frzs cs) := by simp [frz]
@[simp] theorem frz_fk {ks : List Key} : frz (.fk ks cs) = .fk ks cs := by simp [frz]
@[simp] theorem frz_ft {ks : List (List Key)} : frz (.ft ks cs) = .ft ks cs := by simp [frz]
@[simp] theorem frz_deck : frz .deck = .deck := by simp [frz]
@[simp] theorem frz_0 : frz (.ow []) = .im (.list []) := by simp [frz, toDs]
end
section
variable {d : D} {ds : List D} {i : Int} {b : Bool} {x : Str} {kv : List (D × D)}
@[simp] theorem sh_def : SeqAt.shaped d = (d.canLay0 && decide (d.depth ≤ 64)) := rfl
@[simp] theorem cl_n : PyData.canLay0 .none = true := by simp only [PyData.canLay0]
@[simp] theorem cl_b : PyData.canLay0 (.bool b) = true := by simp only [PyData.canLay0]
@[simp] theorem cl_i : PyData.canLay0 (.int i) = true := by simp only [PyData.canLay0]
@[simp] theorem cl_s : PyData.canLay0 (.str x) = PyData.strOk x := by simp only [PyData.canLay0]
@[simp] theorem cl_l : PyData.canLay0 (.list ds) = PyData.canLayAll0 ds := by simp only [PyData.canLay0]
@[simp] theorem cl_t : PyData.canLay0 (.tuple ds) = PyData.canLayAll0 ds := by simp only [PyData.canLay0]
@[simp] theorem cl_d : PyData.canLay0 (.dict kv) = false := by simp only [PyData.canLay0]
@[simp] theorem cla_0 : PyData.canLayAll0 [] = true := by simp only [PyData.canLayAll0]
@[simp] theorem cla_c : PyData.canLayAll0 (d :: ds) = (d.canLay0 && PyData.canLayAll0 ds) := by simp only [PyData.canLayAll0]
@[simp] theorem dp_n : PyData.depth .none = 0 := by simp only [PyData.depth]
@[simp] theorem dp_b : PyData.depth (.bool b) = 0 := by simp only [PyData.depth]
@[simp] theorem dp_i : PyData.depth (.int i) = 0 := by simp only [PyData.depth]
@[simp] theorem dp_s : PyData.depth (.str x) = 0 := by simp only [PyData.depth]
@[simp] theorem dp_l : PyData.depth (.list ds) = PyData.depthAll ds + 1 := by simp only [PyData.depth]
@[simp] theorem dp_t : PyData.depth (.tuple ds) = PyData.depthAll ds + 1 := by simp only [PyData.depth]
@[simp] theorem dpa_0 : PyData.depthAll [] = 0 := by simp only [PyData.depthAll]
@[simp] theorem dpa_c : PyData.depthAll (d :: ds) = max d.depth (PyData.depthAll ds) := by simp only [PyData.depthAll]
end
@[simp] theorem eqv_nn   : PyData.eqv (PyData.none) (PyData.none) = true := by simp [PyData.eqv]
@[simp] theorem eqv_nb  (y : Bool) : PyData.eqv (PyData.none) (PyData.bool y) = false := by simp [PyData.eqv]
@[simp] theorem eqv_ni  (y : Int) : PyData.eqv (PyData.none) (PyData.int y) = false := by simp [PyData.eqv]
@[simp] theorem eqv_ns  (y : Str) : PyData.eqv (PyData.none) (PyData.str y) = false := by simp [PyData.eqv]
@[simp] theorem eqv_nl  (y : List D) : PyData.eqv (PyData.none) (PyData.list y) = false := by simp [PyData.eqv]
@[simp] theorem eqv_nt  (y : List D) : PyData.eqv (PyData.none) (PyData.tuple y) = false := by simp [PyData.eqv]
@[simp] theorem eqv_bn (x : Bool)  : PyData.eqv (PyData.bool x) (PyData.none) = false := by simp [PyData.eqv]
@[simp] theorem eqv_bb (x : Bool) (y : Bool) : PyData.eqv (PyData.bool x) (PyData.bool y) = (x == y) := by simp [PyData.eqv]
@[simp] theorem eqv_bi (x : Bool) (y : Int) : PyData.eqv (PyData.bool x) (PyData.int y) = ((if x = true then 1 else 0) == y) := by simp [PyData.eqv]
@[simp] theorem eqv_bs (x : Bool) (y : Str) : PyData.eqv (PyData.bool x) (PyData.str y) = false := by simp [PyData.eqv]
@[simp] theorem eqv_bl (x : Bool) (y : List D) : PyData.eqv (PyData.bool x) (PyData.list y) = false := by simp [PyData.eqv]
@[simp] theorem eqv_bt (x : Bool) (y : List D) : PyData.eqv (PyData.bool x) (PyData.tuple y) = false := by simp [PyData.eqv]
@[simp] theorem eqv_in (x : Int)  : PyData.eqv (PyData.int x) (PyData.none) = false := by simp [PyData.eqv]
@[simp] theorem eqv_ib (x : Int) (y : Bool) : PyData.eqv (PyData.int x) (PyData.bool y) = (x == if y = true then 1 else 0) := by simp [PyData.eqv]
@[simp] theorem eqv_ii (x : Int) (y : Int) : PyData.eqv (PyData.int x) (PyData.int y) = (x == y) := by simp [PyData.eqv]
@[simp] theorem eqv_is (x : Int) (y : Str) : PyData.eqv (PyData.int x) (PyData.str y) = false := by simp [PyData.eqv]
@[simp] theorem eqv_il (x : Int) (y : List D) : PyData.eqv (PyData.int x) (PyData.list y) = false := by simp [PyData.eqv]
@[simp] theorem eqv_it (x : Int) (y : List D) : PyData.eqv (PyData.int x) (PyData.tuple y) = false := by simp [PyData.eqv]
@[simp] theorem eqv_sn (x : Str)  : PyData.eqv (PyData.str x) (PyData.none) = false := by simp [PyData.eqv]
@[simp] theorem eqv_sb (x : Str) (y : Bool) : PyData.eqv (PyData.str x) (PyData.bool y) = false := by simp [PyData.eqv]
@[simp] theorem eqv_si (x : Str) (y : Int) : PyData.eqv (PyData.str x) (PyData.int y) = false := by simp [PyData.eqv]
@[simp] theorem eqv_ss (x : Str) (y : Str) : PyData.eqv (PyData.str x) (PyData.str y) = (x == y) := by simp [PyData.eqv]
@[simp] theorem eqv_sl (x : Str) (y : List D) : PyData.eqv (PyData.str x) (PyData.list y) = false := by simp [PyData.eqv]
@[simp] theorem eqv_st (x : Str) (y : List D) : PyData.eqv (PyData.str x) (PyData.tuple y) = false := by simp [PyData.eqv]
@[simp] theorem eqv_ln (x : List D)  : PyData.eqv (PyData.list x) (PyData.none) = false := by simp [PyData.eqv]
@[simp] theorem eqv_lb (x : List D) (y : Bool) : PyData.eqv (PyData.list x) (PyData.bool y) = false := by simp [PyData.eqv]
@[simp] theorem eqv_li (x : List D) (y : Int) : PyData.eqv (PyData.list x) (PyData.int y) = false := by simp [PyData.eqv]
@[simp] theorem eqv_ls (x : List D) (y : Str) : PyData.eqv (PyData.list x) (PyData.str y) = false := by simp [PyData.eqv]
@[simp] theorem eqv_ll (x : List D) (y : List D) : PyData.eqv (PyData.list x) (PyData.list y) = PyData.eqvAll x y := by simp [PyData.eqv]
@[simp] theorem eqv_lt (x : List D) (y : List D) : PyData.eqv (PyData.list x) (PyData.tuple y) = false := by simp [PyData.eqv]
@[simp] theorem eqv_tn (x : List D)  : PyData.eqv (PyData.tuple x) (PyData.none) = false := by simp [PyData.eqv]
@[simp] theorem eqv_tb (x : List D) (y : Bool) : PyData.eqv (PyData.tuple x) (PyData.bool y) = false := by simp [PyData.eqv]
@[simp] theorem eqv_ti (x : List D) (y : Int) : PyData.eqv (PyData.tuple x) (PyData.int y) = false := by simp [PyData.eqv]
@[simp] theorem eqv_ts (x : List D) (y : Str) : PyData.eqv (PyData.tuple x) (PyData.str y) = false := by simp [PyData.eqv]
@[simp] theorem eqv_tl (x : List D) (y : List D) : PyData.eqv (PyData.tuple x) (PyData.list y) = false := by simp [PyData.eqv]
@[simp] theorem eqv_tt (x : List D) (y : List D) : PyData.eqv (PyData.tuple x) (PyData.tuple y) = PyData.eqvAll x y := by simp [PyData.eqv]
@[simp] theorem eqvA_0 : PyData.eqvAll [] [] = true := by simp [PyData.eqvAll]
@[simp] theorem eqvA_1 (d : D) (ds : List D) : PyData.eqvAll (d :: ds) [] = false := by simp [PyData.eqvAll]
@[simp] theorem eqvA_2 (d : D) (ds : List D) : PyData.eqvAll [] (d :: ds) = false := by simp [PyData.eqvAll]
@[simp] theorem eqvA_c (d e : D) (ds es : List D) : PyData.eqvAll (d :: ds) (e :: es) = (PyData.eqv d e && PyData.eqvAll ds es) := by simp [PyData.eqvAll]
mutual
/-- no dict within, no text beyond the line, not deep -/
def okD : D → Bool
  | .dict _ => false
  | .str x => PyData.strOk x
  | .list xs => okDs xs
  | .tuple xs => okDs xs
  | _ => true
def okDs : List D → Bool
  | [] => true
  | x :: xs => okD x && okDs xs
end
theorem forGo_ind {G : XG} {T : XS} {E : XEnds} {I : List D → List Cell → Prop} (h0 : ∀ γ, I [] γ → E.nx γ) (hs : ∀ d rest γ, I (d :: rest) γ → ∀ nx : List Cell → Prop, (∀ γ', I rest γ' → nx γ') → G d γ fun γ2 => T { E with nx := nx, ct := nx, bk := E.nx } γ2) : ∀ ds γ, I ds γ → forGo G T E ds γ
  | [], γ, h => h0 γ h
  | d :: ds, γ, h => hs d ds γ h _ fun γ' h' => forGo_ind h0 hs ds γ' h'
theorem compGo_ind {G : XG} {U : XT} {T : XE} {γ : List Cell} {K : Cell → Prop} {I : List D → List Cell → Prop} (h0 : ∀ acc, I [] acc → K (.ow acc))
    (hs : ∀ d rest acc, I (d :: rest) acc → ∀ (K1 : Cell → Prop) (K0 : Prop), (∀ c, I rest (acc ++ [c]) → K1 c) → (I rest acc → K0) → G d γ fun γ2 => U γ2 fun b => if b = true then T γ2 K1 else K0) : ∀ ds acc, I ds acc → compGo G U T γ K ds acc
  | [], acc, h => h0 acc h
  | d :: ds, acc, h => hs d ds acc h _ _ (fun c h' => compGo_ind h0 hs ds _ h') fun h' => compGo_ind h0 hs ds _ h'
/-- the items of an encoded list, one by one -/
theorem forGo_enc {α : Type} (enc : α → D) {G : XG} {T : XS} {E : XEnds} {I : List α → List Cell → Prop} (h0 : ∀ γ, I [] γ → E.nx γ) (hs : ∀ x rest γ, I (x :: rest) γ → ∀ nx : List Cell → Prop, (∀ γ', I rest γ' → nx γ') → G (enc x) γ fun γ2 => T { E with nx := nx, ct := nx, bk := E.nx } γ2) : ∀ xs γ, I xs γ → forGo G T E (xs.map enc) γ
  | [], γ, h => h0 γ h
  | x :: xs, γ, h => hs x xs γ h _ fun γ' h' => forGo_enc enc h0 hs xs γ' h'
/-- .. kept as the state of a fold -/
theorem forGo_fold {α β : Type} (enc : α → D) (f : β → α → β) (st : β → List Cell → Prop) {G : XG} {T : XS} {E : XEnds} (b0 : β) (xs : List α) (γ : List Cell) (h : st b0 γ) (hs : ∀ x ∈ xs, ∀ b γ, st b γ → ∀ nx : List Cell → Prop, (∀ γ', st (f b x) γ' → nx γ') → G (enc x) γ fun γ2 => T { E with nx := nx, ct := nx, bk := E.nx } γ2)
    (he : ∀ γ, st (xs.foldl f b0) γ → E.nx γ) : forGo G T E (xs.map enc) γ := by
  induction xs generalizing b0 γ with
  | nil => exact he γ h
  | cons x xs ih => exact hs x List.mem_cons_self b0 γ h _ fun γ' h' => ih (f b0 x) γ' h' (fun y m => hs y (List.mem_cons_of_mem _ m)) he
theorem compGo_fm {α : Type} (enc : α → D) (p : α → Bool) (g : α → D) {G : XG} {U : XT} {T : XE} {γ : List Cell} {K : Cell → Prop} (xs : List α) (h : ∀ x ∈ xs, ∀ (K1 : Cell → Prop) (K0 : Prop), (p x = true → K1 (.im (g x))) → (p x = false → K0) → G (enc x) γ fun γ2 => U γ2 fun b => if b = true then T γ2 K1 else K0)
    (hk : K (.ow (((xs.filter p).map g).map .im))) : compGo G U T γ K (xs.map enc) [] := by
  have key : ∀ (xs : List α) (acc : List D), (∀ x ∈ xs, ∀ (K1 : Cell → Prop) (K0 : Prop), (p x = true → K1 (.im (g x))) → (p x = false → K0) → G (enc x) γ fun γ2 => U γ2 fun b => if b = true then T γ2 K1 else K0) → K (.ow ((acc ++ (xs.filter p).map g).map .im)) → compGo G U T γ K (xs.map enc) (acc.map .im) := by
    intro xs
    induction xs with
    | nil => intro acc _ hk; simpa [compGo] using hk
    | cons x xs ih =>
      intro acc h hk
      refine h x List.mem_cons_self _ _ (fun hp => ?_) fun hp => ?_
      · have := ih (acc ++ [g x]) (fun y m => h y (List.mem_cons_of_mem _ m)) (by simpa [List.filter_cons, hp] using hk)
        simpa using this
      · exact ih acc (fun y m => h y (List.mem_cons_of_mem _ m)) (by simpa [List.filter_cons, hp] using hk)
  exact key xs [] h (by simpa using hk)
theorem compGo_map {α : Type} (enc : α → D) (g : α → D) {G : XG} {U : XT} {T : XE} {γ : List Cell} {K : Cell → Prop} (xs : List α) (h : ∀ x ∈ xs, ∀ (K1 : Cell → Prop) (K0 : Prop), K1 (.im (g x)) → G (enc x) γ fun γ2 => U γ2 fun b => if b = true then T γ2 K1 else K0)
    (hk : K (.ow ((xs.map g).map .im))) : compGo G U T γ K (xs.map enc) [] :=
  compGo_fm enc (fun _ => true) g xs (fun x m K1 K0 h1 _ => h x m K1 K0 (h1 rfl)) (by rw [List.filter_eq_self.mpr fun _ _ => rfl]; exact hk)
theorem cAll_of {α : Type} (p : α → Bool) (xs : List α) {Q : Cell → Prop} (h : Q (.im (.bool (xs.all p)))) : cAll [.ow ((xs.map fun x => PyData.bool (p x)).map .im)] Q :=
  ⟨_, xs.map p, rfl, by rw [lstF_ow, List.map_map]; rfl, by simpa [List.all_map] using h⟩
theorem ixN_nat {n k : Nat} (h : k < n) : ixN n (k : Int) = some k := by
  unfold ixN
  rw [if_pos (by omega), if_pos (by omega)]
  simp
theorem atI_nat {α : Type} {xs : List α} {k : Nat} (h : k < xs.length) : atI xs (k : Int) = some xs[k] := by
  unfold atI
  rw [ixN_nat h]
  simp [h]
@[simp] theorem at0 {α : Type} {a : α} {r : List α} : atI (a :: r) 0 = some a := by
  have := atI_nat (xs := a :: r) (k := 0) (by simp)
  simpa using this
@[simp] theorem at1 {α : Type} {a b : α} {r : List α} : atI (a :: b :: r) 1 = some b := by
  have := atI_nat (xs := a :: b :: r) (k := 1) (by simp)
  simpa using this
@[simp] theorem at2 {α : Type} {a b c : α} {r : List α} : atI (a :: b :: c :: r) 2 = some c := by
  have := atI_nat (xs := a :: b :: c :: r) (k := 2) (by simp)
  simpa using this
end DL
set_option maxHeartbeats 1000000
namespace DL
open PySem PySem.Spec PyProof.Rows L2
theorem sIx_k (n d k : Nat) : HT.sIx n d (some (k : Int)) = min k n := HT.sIx_nat n d k
@[simp] theorem cut_all {α : Type} (xs : List α) : cut xs none none = xs := by
  unfold cut
  rw [HT.sIx_none, HT.sIx_none]
  simp
theorem cut_from {α : Type} (xs : List α) (k : Nat) : cut xs (some (k : Int)) none = xs.drop k := by
  unfold cut
  rw [sIx_k, HT.sIx_none]
  by_cases h : k ≤ xs.length
  · rw [Nat.min_eq_left h, ← List.length_drop, List.take_length]
  · rw [Nat.min_eq_right (by omega), List.drop_length, List.drop_of_length_le (by omega)]; simp
theorem cut_to {α : Type} (xs : List α) (k : Nat) : cut xs none (some (k : Int)) = xs.take k := by
  unfold cut
  rw [sIx_k, HT.sIx_none]
  by_cases h : k ≤ xs.length
  · rw [Nat.min_eq_left h]; simp
  · rw [Nat.min_eq_right (by omega), List.drop_zero, Nat.sub_zero, List.take_length, List.take_of_length_le (by omega)]
@[simp] theorem cut_1 {α : Type} (xs : List α) : cut xs (some 1) none = xs.tail := by rw [show (some 1 : Option Int) = some ((1 : Nat) : Int) from rfl, cut_from, List.drop_one]
theorem zipD_map {α β : Type} (f : α → D) (g : β → D) (xs : List α) (ys : List β) : zipD (xs.map f) (ys.map g) = (xs.zip ys).map fun p => .tuple [f p.1, g p.2] := by
  unfold zipD
  rw [List.zip_map, List.map_map]
  rfl
theorem enumD_map {α : Type} (f : α → D) (xs : List α) : enumD (xs.map f) = xs.zipIdx.map fun p => .tuple [.int (p.2 : Nat), f p.1] := by
  unfold enumD
  rw [List.zipIdx_map, List.map_map]
  rfl
/-- neighbours in a list of which each is behind the one ahead -/
theorem pair_next {α : Type} {R : α → α → Prop} : ∀ {xs : List α}, xs.Pairwise R → ∀ p ∈ xs.zip xs.tail, R p.1 p.2
  | [], _, p, m => by simp at m
  | [x], _, p, m => by simp at m
  | x :: y :: r, h, p, m => by
    obtain ⟨h1, h2⟩ := List.pairwise_cons.mp h
    have m' : p ∈ (x, y) :: (y :: r).zip (y :: r).tail := by simpa using m
    rcases List.mem_cons.mp m' with e | m'
    · subst e; exact h1 _ (by simp)
    · exact pair_next h2 p m'
theorem zip_next_map {α : Type} (f : α → D) (xs : List α) : zipD (xs.map f) (xs.map f).tail = (xs.zip xs.tail).map fun p => .tuple [f p.1, f p.2] := by
  rw [← List.map_tail, zipD_map]
/-- all of bools that all hold -/
theorem lstF_trues {α : Type} (xs : List α) : lstF (.ow ((xs.map fun _ => PyData.bool true).map .im)) = some ((xs.map fun _ => true).map PyData.bool) := by
  rw [lstF_ow, List.map_map]; rfl
@[simp] theorem all_const {α : Type} (xs : List α) : (xs.all fun _ => true) = true := by simp [List.all_eq_true]
theorem bool_to {K : Cell → Prop} {b : Bool} (e : b = true) (h : K (.im (.bool true))) : K (.im (.bool b)) := by rw [e]; exact h
theorem no_false {α : Type} (xs : List α) : ¬ false ∈ xs.map fun _ => true := by simp
theorem all_trues {α : Type} (xs : List α) : (xs.map fun _ => true).all id = true := by simp
/-- [.. for ..] of bools that all hold, and what follows -/
theorem comp_trues {α : Type} (enc : α → D) {G : XG} {U : XT} {T : XE} {γ : List Cell} {K : Cell → Prop} (xs : List α) (h : ∀ x ∈ xs, ∀ (K1 : Cell → Prop) (K0 : Prop), K1 (.im (.bool true)) → G (enc x) γ fun γ2 => U γ2 fun b => if b = true then T γ2 K1 else K0)
    (hk : K (.ow ((xs.map fun _ => PyData.bool true).map .im))) : compGo G U T γ K (xs.map enc) [] := compGo_map enc (fun _ => .bool true) xs h hk
end DL
set_option maxHeartbeats 1000000
namespace DL
open PySem PySem.Spec PyProof.Rows L2
theorem band_nat (a b : Nat) : Builtin.bitAnd (a : Int) (b : Int) = ((a &&& b : Nat) : Int) := by
  unfold Builtin.bitAnd
  simp
theorem bnot_bnot (x : Int) : Builtin.bitNot (Builtin.bitNot x) = x := by unfold Builtin.bitNot; omega
theorem bor_nat (a b : Nat) : Builtin.bitOr (a : Int) (b : Int) = ((a ||| b : Nat) : Int) := by
  unfold Builtin.bitOr Builtin.bitAnd
  have h1 : decide (0 ≤ Builtin.bitNot (a : Int)) = false := by unfold Builtin.bitNot; simp; omega
  have h2 : decide (0 ≤ Builtin.bitNot (b : Int)) = false := by unfold Builtin.bitNot; simp; omega
  rw [h1, h2]
  simp only [bnot_bnot, Int.toNat_natCast]
theorem shr_nat (m k : Nat) : (m : Int) / 2 ^ ((k : Int)).toNat = ((m / 2 ^ k : Nat) : Int) := by
  rw [Int.toNat_natCast]
  simp
theorem one_shl (k : Nat) : (1 : Int) * 2 ^ ((k : Int)).toNat = ((2 ^ k : Nat) : Int) := by
  rw [Int.toNat_natCast]
  simp
theorem bit_at (m k : Nat) : Builtin.bitAnd ((m / 2 ^ k : Nat) : Int) 1 = if m.testBit k = true then 1 else 0 := by
  rw [show (1 : Int) = ((1 : Nat) : Int) from rfl, band_nat, Nat.and_one_is_mod, Nat.testBit_eq_decide_div_mod_eq]
  by_cases h : m / 2 ^ k % 2 = 1
  · simp [h]
  · have : m / 2 ^ k % 2 = 0 := by omega
    simp [this]
/-- .. as simp leaves it -/
theorem bit_at' (m k : Nat) : Builtin.bitAnd ((m : Int) / 2 ^ k) 1 = if m.testBit k = true then 1 else 0 := by
  rw [← bit_at]; simp
theorem add_disj : ∀ (n a b : Nat), a < 2 ^ n → a &&& b = 0 → a + b = a ||| b
  | 0, a, b, h, _ => by
    have : a = 0 := by omega
    subst this; simp
  | n + 1, a, b, h, e => by
    have e2 : (a / 2) &&& (b / 2) = 0 := by rw [← Nat.and_div_two, e]
    have ih := add_disj n (a / 2) (b / 2) (by rw [Nat.pow_succ] at h; omega) e2
    rw [← Nat.or_div_two] at ih
    have m0 : ¬ (a % 2 = 1 ∧ b % 2 = 1) := by
      rw [← Nat.and_mod_two_eq_one, e]; simp
    have m1 := Nat.or_mod_two_eq_one (a := a) (b := b)
    have d := Nat.div_add_mod (a ||| b) 2
    by_cases ha : a % 2 = 1
    · have := m1.mpr (.inl ha)
      omega
    · by_cases hb : b % 2 = 1
      · have := m1.mpr (.inr hb)
        omega
      · have : ¬ (a ||| b) % 2 = 1 := fun z => (m1.mp z).elim ha hb
        omega
theorem xor_and (x m : Nat) : x - (x &&& m) = x ^^^ (x &&& m) := by
  have h : (x &&& m) + (x ^^^ (x &&& m)) = x := by
    have h1 : (x &&& m) &&& (x ^^^ (x &&& m)) = 0 := by
      apply Nat.eq_of_testBit_eq
      intro i
      simp only [Nat.testBit_and, Nat.testBit_xor, Nat.zero_testBit]
      cases x.testBit i <;> cases m.testBit i <;> rfl
    have h2 : (x &&& m) ||| (x ^^^ (x &&& m)) = x := by
      apply Nat.eq_of_testBit_eq
      intro i
      simp only [Nat.testBit_or, Nat.testBit_and, Nat.testBit_xor]
      cases x.testBit i <;> cases m.testBit i <;> rfl
    have h3 := add_disj (x &&& m) (x &&& m) (x ^^^ (x &&& m)) Nat.lt_two_pow_self h1
    rw [h3, h2]
  omega
theorem sub_nat (x m : Nat) : (x : Int) - Builtin.bitAnd (x : Int) (m : Int) = ((x ^^^ (x &&& m) : Nat) : Int) := by
  rw [band_nat, ← xor_and]
  have : x &&& m ≤ x := Nat.and_le_left
  omega
theorem cpow_one (k : Nat) (h : k ≤ 1000000) : CPow 1 (k : Int) := ⟨by omega, by omega, by decide⟩
end DL
set_option maxHeartbeats 1000000
namespace DL
open PySem PySem.Spec PyProof.Rows L2
def nats (f : List Nat) : List D := f.map fun x => .int (x : Nat)
@[simp] theorem nats_len (f : List Nat) : (nats f).length = f.length := by simp [nats]
theorem nats_at {f : List Nat} {k : Nat} (h : k < f.length) : atI (nats f) (k : Int) = some (.int (f.getD k 0 : Nat)) := by
  rw [atI_nat (by simpa using h)]
  simp [nats, List.getD_eq_getElem?_getD, h]
theorem natsC_at {f : List Nat} {k : Nat} (h : k < f.length) : atI ((nats f).map Cell.im) (k : Int) = some (.im (.int (f.getD k 0 : Nat))) := by
  rw [atI_nat (by simpa using h)]
  simp [nats, List.getD_eq_getElem?_getD, h]
theorem natsC_set (f : List Nat) (j v : Nat) : ((nats f).map Cell.im).set j (.im (.int (v : Nat))) = (nats (f.set j v)).map Cell.im := by
  unfold nats
  rw [List.map_map, List.map_map, List.map_set]
  rfl
@[simp] theorem nats_range (n : Nat) : (List.range n).map (fun i => PyData.int (i : Nat)) = nats (List.range n) := rfl
theorem getD_set (f : List Nat) (j v k : Nat) (h : j < f.length) : (f.set j v).getD k 0 = if k = j then v else f.getD k 0 := by
  rw [List.getD_eq_getElem?_getD, List.getD_eq_getElem?_getD, List.getElem?_set]
  by_cases e : j = k
  · subst e; simp [h]
  · have e' : ¬ k = j := fun z => e z.symm
    simp [e, e']
/-- n as an int of the model -/
theorem toNat_sub (a b : Nat) : ((b : Int) - (a : Int)).toNat = b - a := by omega
end DL
set_option maxHeartbeats 1000000
namespace DL
open PySem PySem.Spec PyProof.Rows L2
theorem le_size {n : Nat} (h : n ≤ 1000) : n ≤ sizeLine := Nat.le_trans h (by decide)
theorem lt_size {n : Nat} (h : n < 1000) : n < sizeLine := Nat.lt_of_lt_of_le h (by decide)
@[simp] theorem sz1 : 1 ≤ sizeLine := by decide
@[simp] theorem sz2 : 2 ≤ sizeLine := by decide
@[simp] theorem sz3 : 3 ≤ sizeLine := by decide
@[simp] theorem sz4 : 4 ≤ sizeLine := by decide
@[simp] theorem sz5 : 5 ≤ sizeLine := by decide
@[simp] theorem sz6 : 6 ≤ sizeLine := by decide
@[simp] theorem sz7 : 7 ≤ sizeLine := by decide
@[simp] theorem sz8 : 8 ≤ sizeLine := by decide
@[simp] theorem sz9 : 9 ≤ sizeLine := by decide
@[simp] theorem sz10 : 10 ≤ sizeLine := by decide
@[simp] theorem sz11 : 11 ≤ sizeLine := by decide
@[simp] theorem sz12 : 12 ≤ sizeLine := by decide
theorem inGo_fm {α : Type} (enc : α → D) (p : α → Bool) (g : α → D) {G : XG} {U : XT} {T : XE} {γ : List Cell} {K : List Cell → Prop} : ∀ (xs : List α) (acc : List D), (∀ x ∈ xs, ∀ (K1 : Cell → Prop) (K0 : Prop), (p x = true → K1 (.im (g x))) → (p x = false → K0) → G (enc x) γ fun γ2 => U γ2 fun b => if b = true then T γ2 K1 else K0) →
    acc.length + xs.length ≤ sizeLine → K ((acc ++ (xs.filter p).map g).map .im) → inGo G U T γ K (xs.map enc) (acc.map .im)
  | [], acc, _, _, hk => by simpa [inGo] using hk
  | x :: xs, acc, h, hl, hk => by
    have hl' : acc.length + (xs.length + 1) ≤ sizeLine := by simpa using hl
    refine h x List.mem_cons_self _ _ (fun hp => ?_) fun hp => ?_
    · refine ⟨by rw [List.length_map]; omega, ?_⟩
      have := inGo_fm enc p g (G := G) (U := U) (T := T) (γ := γ) (K := K) xs (acc ++ [g x]) (fun y m => h y (List.mem_cons_of_mem _ m)) (by simp; omega) (by simpa [List.filter_cons, hp] using hk)
      simpa using this
    · exact inGo_fm enc p g xs acc (fun y m => h y (List.mem_cons_of_mem _ m)) (by omega) (by simpa [List.filter_cons, hp] using hk)
theorem compGo2_fm {α β : Type} (enc1 : α → D) (enc2 : β → D) (ys : α → List β) (γx : α → List Cell) (p : α → β → Bool) (g : α → β → D) {G : XG} {U : XT} {W1 : XI} {G1 : XG} {U1 : XT} {T : XE} {vs1 : List Nat} {γ : List Cell} {K : Cell → Prop} (m : Nat) :
    ∀ (xs : List α) (acc : List D), (∀ x ∈ xs, ∀ (P : List D → List Cell → Prop) (P0 : Prop), P ((ys x).map enc2) (γx x) → G (enc1 x) γ fun γ2 => U γ2 fun b => if b = true then W1 γ2 fun es => P es γ2 else P0) →
    (∀ x ∈ xs, ∀ y ∈ ys x, ∀ (K1 : Cell → Prop) (K0 : Prop), (p x y = true → K1 (.im (g x y))) → (p x y = false → K0) → G1 (enc2 y) (wipeC (γx x) vs1) fun γ3 => U1 γ3 fun b => if b = true then T γ3 K1 else K0) →
    (∀ x ∈ xs, (ys x).length ≤ m) → acc.length + xs.length * m ≤ sizeLine → K (.ow ((acc ++ xs.flatMap fun x => ((ys x).filter (p x)).map (g x)).map .im)) → compGo2 G U W1 G1 U1 T vs1 γ K (xs.map enc1) (acc.map .im)
  | [], acc, _, _, _, _, hk => by simpa [compGo2] using hk
  | x :: xs, acc, h1, h2, h3, hl, hk => by
    have hl' : acc.length + (xs.length + 1) * m ≤ sizeLine := by simpa using hl
    have hx := h3 x List.mem_cons_self
    rw [Nat.add_mul, Nat.one_mul] at hl'
    refine h1 x List.mem_cons_self (fun es γ2 => inGo G1 U1 T (wipeC γ2 vs1) (fun acc' => compGo2 G U W1 G1 U1 T vs1 γ K (xs.map enc1) acc') es (acc.map .im)) _ ?_
    refine inGo_fm enc2 (p x) (g x) (ys x) acc (fun y my => h2 x List.mem_cons_self y my) (by omega) ?_
    have hf : ((ys x).filter (p x)).length ≤ m := Nat.le_trans (List.length_filter_le _ _) hx
    exact compGo2_fm enc1 enc2 ys γx p g m xs _ (fun y m => h1 y (List.mem_cons_of_mem _ m)) (fun y m => h2 y (List.mem_cons_of_mem _ m)) (fun y m => h3 y (List.mem_cons_of_mem _ m)) (by rw [List.length_append, List.length_map]; omega) (by simpa [List.append_assoc] using hk)
end DL
set_option maxHeartbeats 1000000
namespace DL
open PySem PySem.Spec PyProof.Rows L2
theorem layAll_map {α : Type} {f : α → D} {l : List α} (h : ∀ x ∈ l, PyData.canLay0 (f x) = true) : PyData.canLayAll0 (l.map f) = true := by
  induction l with
  | nil => rfl
  | cons x l ih => simp [h x List.mem_cons_self, ih fun y m => h y (List.mem_cons_of_mem _ m)]
theorem depAll_map {α : Type} {f : α → D} {l : List α} {m : Nat} (h : ∀ x ∈ l, PyData.depth (f x) ≤ m) : PyData.depthAll (l.map f) ≤ m := by
  induction l with
  | nil => simp
  | cons x l ih =>
    simp only [List.map_cons, PyData.depthAll]
    exact Nat.max_le.mpr ⟨h x List.mem_cons_self, ih fun y m => h y (List.mem_cons_of_mem _ m)⟩
@[simp] theorem layAll_nat (l : List Nat) : PyData.canLayAll0 (l.map fun x => PyData.int (x : Nat)) = true := layAll_map fun _ _ => by simp
@[simp] theorem depAll_nat (l : List Nat) : PyData.depthAll (l.map fun x => PyData.int (x : Nat)) = 0 := Nat.le_zero.mp (depAll_map fun _ _ => by simp)
@[simp] theorem layAll_str (l : List Str) : PyData.canLayAll0 (l.map PyData.str) = l.all fun x => PyData.canLay0 (.str x) := by
  induction l with
  | nil => rfl
  | cons x l ih => simp [ih]
@[simp] theorem depAll_str (l : List Str) : PyData.depthAll (l.map PyData.str) = 0 := Nat.le_zero.mp (depAll_map fun _ _ => by simp)
theorem any_nat (l : List Nat) (a : Nat) : ((l.map fun x => PyData.int (x : Nat)).any fun z => PyData.eqv z (.int (a : Nat))) = decide (a ∈ l) := by
  rw [Bool.eq_iff_iff]
  simp
  exact ⟨fun ⟨x, m, e⟩ => (show x = a by omega) ▸ m, fun m => ⟨a, m, rfl⟩⟩
theorem any_str (l : List Str) (a : Str) : ((l.map PyData.str).any fun z => PyData.eqv z (.str a)) = decide (a ∈ l) := by
  rw [Bool.eq_iff_iff]
  simp
@[simp] theorem ex_nat (l : List Nat) (a : Nat) : (∃ z, z ∈ l.map (fun x => PyData.int (x : Nat)) ∧ PyData.eqv z (.int (a : Nat)) = true) ↔ a ∈ l := by
  rw [← List.any_eq_true (p := fun z => PyData.eqv z (.int (a : Nat))), any_nat, decide_eq_true_iff]
@[simp] theorem ex_str (l : List Str) (a : Str) : (∃ z, z ∈ l.map PyData.str ∧ PyData.eqv z (.str a) = true) ↔ a ∈ l := by
  rw [← List.any_eq_true (p := fun z => PyData.eqv z (.str a)), any_str, decide_eq_true_iff]
end DL
set_option maxHeartbeats 1000000
namespace DL
open PySem PySem.Spec PyProof.Rows L2
open PySem.W (alike alikeAll keyToks keyToksAll AllAlike Sortable dataLt dataLe)
def sumPow (l : List Nat) : Nat := (l.map fun x => 2 ^ x).sum
theorem sumPow_bit : ∀ {l : List Nat}, l.Nodup → ∀ a, (sumPow l).testBit a = true ↔ a ∈ l
  | [], _, a => by simp [sumPow]
  | x :: l, h, a => by
    obtain ⟨h1, h2⟩ := List.nodup_cons.mp h
    have ih := sumPow_bit h2
    have e : sumPow (x :: l) = 2 ^ x ||| sumPow l := by
      show 2 ^ x + sumPow l = _
      refine add_disj (x + 1) _ _ (Nat.pow_lt_pow_right (by decide) (by omega)) ?_
      apply Nat.eq_of_testBit_eq
      intro i
      rw [Nat.testBit_and, Nat.testBit_two_pow, Nat.zero_testBit]
      by_cases e : x = i
      · subst e
        have : (sumPow l).testBit x = false := by
          cases q : (sumPow l).testBit x with
          | false => rfl
          | true => exact absurd ((ih x).mp q) h1
        simp [this]
      · simp [e]
    rw [e, Nat.testBit_or, Bool.or_eq_true, ih, Nat.testBit_two_pow, decide_eq_true_iff, List.mem_cons, eq_comm]
theorem sumPow_int (l : List Nat) : (l.map fun x => (2 : Int) ^ x).sum = ((sumPow l : Nat) : Int) := by
  unfold sumPow
  induction l with
  | nil => rfl
  | cons x l ih => simp [ih]
mutual
theorem dataLt_ltB : ∀ d e : D, alike d e = true → ordB d e = true → dataLt d e = ltB d e
  | .int i, .int j, _, _ => by rw [PySem.W.dataLt_int]; simp [ltB]
  | .str a, .str b, _, _ => by rw [PySem.W.dataLt_str]; simp [ltB]
  | .tuple xs, .tuple ys, h, h2 => by
    rw [PySem.W.dataLt_tuple]
    simp only [ltB]
    exact dataLts xs ys (by simpa [alike] using h) (by simpa [ordB] using h2)
  | .none, e, _, h => by cases e <;> simp [ordB] at h
  | .bool _, e, _, h => by cases e <;> simp [ordB] at h
  | .list _, e, _, h => by cases e <;> simp [ordB] at h
  | .dict _, e, _, h => by cases e <;> simp [ordB] at h
  | .int _, .none, _, h => by simp [ordB] at h
  | .int _, .bool _, _, h => by simp [ordB] at h
  | .int _, .str _, _, h => by simp [ordB] at h
  | .int _, .list _, _, h => by simp [ordB] at h
  | .int _, .tuple _, _, h => by simp [ordB] at h
  | .int _, .dict _, _, h => by simp [ordB] at h
  | .str _, .none, _, h => by simp [ordB] at h
  | .str _, .bool _, _, h => by simp [ordB] at h
  | .str _, .int _, _, h => by simp [ordB] at h
  | .str _, .list _, _, h => by simp [ordB] at h
  | .str _, .tuple _, _, h => by simp [ordB] at h
  | .str _, .dict _, _, h => by simp [ordB] at h
  | .tuple _, .none, _, h => by simp [ordB] at h
  | .tuple _, .bool _, _, h => by simp [ordB] at h
  | .tuple _, .int _, _, h => by simp [ordB] at h
  | .tuple _, .str _, _, h => by simp [ordB] at h
  | .tuple _, .list _, _, h => by simp [ordB] at h
  | .tuple _, .dict _, _, h => by simp [ordB] at h
theorem dataLts : ∀ xs ys : List D, alikeAll xs ys = true → ordBs xs ys = true → PyProof.Rows.lexLt itemOrd (keyToksAll xs) (keyToksAll ys) = ltBs xs ys
  | [], [], _, _ => by simp only [keyToksAll, ltBs]; exact lex_irrefl (O := itemOrd) _
  | [], y :: ys, _, _ => by
    simp only [keyToksAll, ltBs]
    exact (lex_true (O := itemOrd)).mpr (.inl (by decide))
  | x :: xs, [], _, _ => by
    simp only [keyToksAll, ltBs]
    exact (lex_false (O := itemOrd)).mpr ⟨by decide, .inl (by decide)⟩
  | x :: xs, y :: ys, h, h2 => by
    obtain ⟨a1, a2⟩ := PySem.W.alike_all_cons h
    simp only [ordBs, Bool.and_eq_true, Bool.or_eq_true] at h2
    simp only [ltBs]
    by_cases e : PyData.eqv x y = true
    · rw [PySem.W.dataLt_all_yes a1 e, if_pos e]
      exact dataLts xs ys a2 h2.2
    · have e' : PyData.eqv x y = false := by simpa using e
      rw [PySem.W.dataLt_all_no a1 e', if_neg e]
      exact dataLt_ltB x y a1 (h2.1.resolve_left e)
end
theorem eqv_of_toks {x y : D} (h : alike x y = true) (e : keyToks x = keyToks y) : PyData.eqv x y = true := by
  cases q : PyData.eqv x y with
  | true => rfl
  | false =>
    have := (PySem.W.toks_eqv x y h).2 q [] [.inl 0]
    rw [e, PySem.W.lex_pre, lex_irrefl] at this
    cases this
/-- sorted: the same data, ascending -/
theorem sortD_asc {ds : List D} (h1 : AllAlike ds) (h2 : ds.Pairwise fun a b => PyData.eqv a b = false ∧ PyData.eqv b a = false) : (sortD ds).Perm ds ∧ (sortD ds).Pairwise fun a b => dataLt a b = true := by
  have hp : (sortD ds).Perm ds := List.mergeSort_perm _ _
  refine ⟨hp, ?_⟩
  have neg : ∀ a b c : D, dataLt a c = true → dataLt a b = true ∨ dataLt b c = true := fun a b c h => lex_negTrans (O := itemOrd) _ (keyToks b) _ h
  have asy : ∀ a b : D, dataLt a b = true → dataLt b a = false := fun a b h => by
    cases r : dataLt b a with
    | false => rfl
    | true =>
      have := lex_trans (O := itemOrd) _ _ _ h r
      rw [lex_irrefl] at this
      cases this
  have el : ∀ a b : D, dataLe (β := D) false id a b = !dataLt b a := fun a b => rfl
  have s := List.pairwise_mergeSort (le := dataLe (β := D) false id) (fun a b c h1 h2 => by
    rw [el, Bool.not_eq_true'] at h1 h2 ⊢
    cases q : dataLt c a with
    | false => rfl
    | true =>
      rcases neg _ b _ q with z | z
      · rw [h2] at z; cases z
      · rw [h1] at z; cases z) (fun a b => by
    rw [el, el]
    cases q : dataLt b a with
    | false => rfl
    | true => rw [asy _ _ q]; rfl) ds
  have s2 : (sortD ds).Pairwise fun a b => PyData.eqv a b = false ∧ PyData.eqv b a = false := (hp.pairwise_iff (fun h => ⟨h.2, h.1⟩)).mpr h2
  have s3 : (sortD ds).Pairwise fun a b => a ∈ ds ∧ b ∈ ds := by
    rw [List.pairwise_iff_forall_sublist]
    intro a b hs
    exact ⟨hp.subset (hs.subset (by simp)), hp.subset (hs.subset (by simp))⟩
  refine ((List.Pairwise.and s s2).and s3).imp ?_
  rintro a b ⟨⟨p, q⟩, ma, mb⟩
  rw [el, Bool.not_eq_true'] at p
  cases r : dataLt a b with
  | true => rfl
  | false =>
    have e := lex_total (O := itemOrd) (keyToks a) (keyToks b) r p
    have := eqv_of_toks (h1 a ma b mb) e
    rw [q.1] at this; cases this
section
variable {κ : Type} [DecidableEq κ]
theorem getK_cons {k k' : κ} {ks : List κ} {c : Cell} {cs : List Cell} : getK (k :: ks) (c :: cs) k' = if k = k' then some c else getK ks cs k' := by
  unfold getK
  rw [List.zip_cons_cons, List.find?_cons]
  by_cases h : k = k'
  · subst h; simp
  · simp [h]
theorem getK_app {k k' : κ} {c : Cell} : ∀ {ks : List κ} {cs : List Cell}, ks.length = cs.length → k ∉ ks → getK (ks ++ [k]) (cs ++ [c]) k' = if k = k' then some c else getK ks cs k'
  | [], [], _, _ => by simp [getK_cons, getK]
  | a :: ks, b :: cs, l, m => by
    rw [List.cons_append, List.cons_append, getK_cons, getK_cons, getK_app (by simpa using l) (fun z => m (List.mem_cons_of_mem _ z))]
    by_cases h : a = k'
    · subst h
      have : ¬ k = a := fun z => m (by rw [z]; simp)
      simp [this]
    · simp [h]
theorem putC_new {ks : List κ} {cs : List Cell} {k : κ} {c : Cell} (h : k ∉ ks) : putC ks cs k c = (ks ++ [k], cs ++ [c]) := by
  unfold putC; rw [if_neg h]
end
theorem eqvAll_nat : ∀ a b : List Nat, PyData.eqvAll (a.map fun x => .int (x : Nat)) (b.map fun x => .int (x : Nat)) = decide (a = b)
  | [], [] => by simp
  | [], b :: bs => by simp
  | a :: as, [] => by simp
  | a :: as, b :: bs => by
    rw [List.map_cons, List.map_cons, eqvA_c, eqvAll_nat as bs, eqv_ii]
    by_cases h : a = b
    · subst h; simp
    · have : ((a : Int) == (b : Int)) = false := by simp; omega
      simp [this, h]
theorem alikeAll_nat : ∀ a b : List Nat, alikeAll (a.map fun x => .int (x : Nat)) (b.map fun x => .int (x : Nat)) = true
  | [], [] => by simp [alikeAll]
  | [], b :: bs => by simp [alikeAll]
  | a :: as, [] => by simp [alikeAll]
  | a :: as, b :: bs => by simp [alikeAll, alike, alikeAll_nat as bs]
theorem ordBs_nat : ∀ a b : List Nat, ordBs (a.map fun x => .int (x : Nat)) (b.map fun x => .int (x : Nat)) = true
  | [], [] => by simp [ordBs]
  | [], b :: bs => by simp [ordBs]
  | a :: as, [] => by simp [ordBs]
  | a :: as, b :: bs => by simp [ordBs, ordB, ordBs_nat as bs]
end DL
set_option maxHeartbeats 1000000
namespace DL
open PySem PySem.Spec PyProof.Rows L2
theorem forGo_pre {α β : Type} (enc : α → D) (f : β → α → β) (st : β → List Cell → Prop) {G : XG} {T : XS} {E : XEnds} (b0 : β) (xs : List α) (γ : List Cell) (h : st b0 γ)
    (hs : ∀ pre x rest, xs = pre ++ x :: rest → ∀ γ, st (pre.foldl f b0) γ → ∀ nx : List Cell → Prop, (∀ γ', st (f (pre.foldl f b0) x) γ' → nx γ') → G (enc x) γ fun γ2 => T { E with nx := nx, ct := nx, bk := E.nx } γ2)
    (he : ∀ γ, st (xs.foldl f b0) γ → E.nx γ) : forGo G T E (xs.map enc) γ := by
  refine forGo_enc enc (I := fun rest γ => ∃ pre, xs = pre ++ rest ∧ st (pre.foldl f b0) γ) ?_ ?_ xs γ ⟨[], rfl, h⟩
  · rintro γ ⟨pre, e, h⟩
    rw [List.append_nil] at e
    subst e
    exact he γ h
  · rintro x rest γ ⟨pre, e, h⟩ nx hn
    exact hs pre x rest e γ h nx fun γ' h' => hn γ' ⟨pre ++ [x], by simp [e], by rw [List.foldl_append]; exact h'⟩
theorem fold_mem {α β : Type} (f : List β → α → List β) (P : α → β → Prop) (h : ∀ l a b, b ∈ f l a ↔ b ∈ l ∨ P a b) : ∀ (xs : List α) (l : List β) (b : β), b ∈ xs.foldl f l ↔ b ∈ l ∨ ∃ a ∈ xs, P a b
  | [], l, b => by simp
  | x :: xs, l, b => by
    rw [List.foldl_cons, fold_mem f P h xs, h]
    simp [or_assoc]
theorem fold_len {α β : Type} (f : List β → α → List β) (m : Nat) (h : ∀ l a, (f l a).length ≤ l.length + m) : ∀ (xs : List α) (l : List β), (xs.foldl f l).length ≤ l.length + xs.length * m
  | [], l => by simp
  | x :: xs, l => by
    rw [List.foldl_cons, List.length_cons, Nat.add_mul]
    have h1 := fold_len f m h xs (f l x)
    have h2 := h l x
    omega
@[simp] theorem atI_last {α : Type} (xs : List α) (x : α) : atI (xs ++ [x]) (-1) = some x := by
  unfold atI ixN
  simp
  rw [if_pos (by omega), show (-1 + ((xs.length : Int) + 1)).toNat = xs.length by omega]
  simp
theorem atI_last_map {α : Type} (f : α → Cell) (xs : List α) (x : α) : atI ((xs ++ [x]).map f) (-1) = some (f x) := by
  rw [List.map_append, List.map_cons, List.map_nil, atI_last]
/-- [.. for ..]: items of which only some is known -/
theorem compGo_all {α β : Type} (enc : α → D) (g : β → D) (P : β → Prop) {G : XG} {U : XT} {T : XE} {γ : List Cell} {K : Cell → Prop} (xs : List α) (h : ∀ x ∈ xs, ∀ (K1 : Cell → Prop) (K0 : Prop), (∀ y, P y → K1 (.im (g y))) → G (enc x) γ fun γ2 => U γ2 fun b => if b = true then T γ2 K1 else K0)
    (hk : ∀ ys : List β, ys.length = xs.length → (∀ y ∈ ys, P y) → K (.ow ((ys.map g).map .im))) : compGo G U T γ K (xs.map enc) [] := by
  have key : ∀ (xs : List α) (acc : List β), (∀ x ∈ xs, ∀ (K1 : Cell → Prop) (K0 : Prop), (∀ y, P y → K1 (.im (g y))) → G (enc x) γ fun γ2 => U γ2 fun b => if b = true then T γ2 K1 else K0) → (∀ ys : List β, ys.length = xs.length → (∀ y ∈ ys, P y) → K (.ow (((acc ++ ys).map g).map .im))) → compGo G U T γ K (xs.map enc) ((acc.map g).map .im) := by
    intro xs
    induction xs with
    | nil => intro acc _ hk; simpa [compGo] using hk [] rfl (fun _ z => nomatch z)
    | cons x xs ih =>
      intro acc h hk
      refine h x List.mem_cons_self _ _ (fun y hy => ?_)
      have := ih (acc ++ [y]) (fun z m => h z (List.mem_cons_of_mem _ m)) fun ys hl hP => by
        have := hk (y :: ys) (by simp [hl]) (fun z m => by rcases List.mem_cons.mp m with rfl | m <;> (first | exact hy | exact hP z m))
        simpa using this
      simpa using this
  exact key xs [] h (by simpa using hk)
/-- .. a part of a list: what must be in, what may be in -/
theorem compGo_sub {α : Type} (enc : α → D) (g : α → D) (p q : α → Prop) {G : XG} {U : XT} {T : XE} {γ : List Cell} {K : Cell → Prop} (xs : List α) (h : ∀ x ∈ xs, ∀ (K1 : Cell → Prop) (K0 : Prop), (p x → K1 (.im (g x))) → (¬ q x → K0) → G (enc x) γ fun γ2 => U γ2 fun b => if b = true then T γ2 K1 else K0)
    (hk : ∀ ys : List α, ys.Sublist xs → (∀ y ∈ ys, p y) → (∀ x ∈ xs, q x → x ∈ ys) → K (.ow ((ys.map g).map .im))) : compGo G U T γ K (xs.map enc) [] := by
  have key : ∀ (xs : List α) (acc : List α), (∀ x ∈ xs, ∀ (K1 : Cell → Prop) (K0 : Prop), (p x → K1 (.im (g x))) → (¬ q x → K0) → G (enc x) γ fun γ2 => U γ2 fun b => if b = true then T γ2 K1 else K0) → (∀ ys : List α, ys.Sublist xs → (∀ y ∈ ys, p y) → (∀ x ∈ xs, q x → x ∈ ys) → K (.ow (((acc ++ ys).map g).map .im))) → compGo G U T γ K (xs.map enc) ((acc.map g).map .im) := by
    intro xs
    induction xs with
    | nil => intro acc _ hk; simpa [compGo] using hk [] (List.Sublist.refl _) (fun _ z => nomatch z) (fun _ z => nomatch z)
    | cons x xs ih =>
      intro acc h hk
      refine h x List.mem_cons_self _ _ (fun hp => ?_) fun hq => ?_
      · have := ih (acc ++ [x]) (fun z m => h z (List.mem_cons_of_mem _ m)) fun ys hs hP hQ => by
          have := hk (x :: ys) (hs.cons_cons x) (fun z m => by rcases List.mem_cons.mp m with rfl | m <;> (first | exact hp | exact hP z m)) (fun z m hz => by rcases List.mem_cons.mp m with rfl | m <;> (first | exact List.mem_cons_self | exact List.mem_cons_of_mem _ (hQ z m hz)))
          simpa using this
        simpa using this
      · exact ih acc (fun z m => h z (List.mem_cons_of_mem _ m)) fun ys hs hP hQ => hk ys (hs.cons x) hP (fun z m hz => by rcases List.mem_cons.mp m with rfl | m <;> (first | exact absurd hz hq | exact hQ z m hz))
  exact key xs [] h (by simpa using hk)
@[simp] theorem frz_ow (ds : List D) : frz (.ow (ds.map .im)) = .im (.list ds) := by
  simp [frz]
/-- an ascending list of numbers is a part of the numbers -/
theorem asc_sub : ∀ (n a : Nat) (l : List Nat), l.Pairwise (· < ·) → (∀ x ∈ l, a ≤ x ∧ x < a + n) → l.Sublist (List.range' a n)
  | 0, a, [], _, _ => List.Sublist.refl _
  | 0, a, x :: l, _, h => by have := h x List.mem_cons_self; omega
  | n + 1, a, [], _, _ => List.nil_sublist _
  | n + 1, a, x :: l, hp, h => by
    obtain ⟨h1, h2⟩ := List.pairwise_cons.mp hp
    rw [List.range'_succ]
    by_cases e : x = a
    · subst e
      refine (asc_sub n (x + 1) l h2 fun y m => ?_).cons_cons x
      have := h y (List.mem_cons_of_mem _ m)
      have := h1 y m
      omega
    · refine (asc_sub n (a + 1) (x :: l) hp fun y m => ?_).cons a
      have := h y m
      have := h x List.mem_cons_self
      rcases List.mem_cons.mp m with rfl | m
      · omega
      · have := h1 y m
        omega
/-- items by ascending places -/
theorem asc_items {α : Type} (xs : List α) (d : α) (l : List Nat) (h : l.Pairwise (· < ·)) (hl : ∀ x ∈ l, x < xs.length) : (l.map fun k => xs.getD k d).Sublist xs := by
  have h1 := asc_sub xs.length 0 l h fun x m => ⟨Nat.zero_le _, by have := hl x m; omega⟩
  have h2 := h1.map fun k => xs.getD k d
  have e : (List.range' 0 xs.length).map (fun k => xs.getD k d) = xs := by
    apply List.ext_getElem
    · simp
    · intro i h1 h2
      simp [List.getD_eq_getElem?_getD, h2]
  rwa [e] at h2
/-- sorted of numbers -/
theorem sortD_nat (l : List Nat) (nd : l.Nodup) : ∃ l' : List Nat, sortD (l.map fun x => .int (x : Nat)) = l'.map (fun x => .int (x : Nat)) ∧ l'.Perm l ∧ l'.Pairwise (· < ·) := by
  obtain ⟨h1, h2⟩ := sortD_asc (ds := l.map fun x => .int (x : Nat)) (by
    intro d m d' m'
    obtain ⟨x, _, rfl⟩ := List.mem_map.mp m
    obtain ⟨y, _, rfl⟩ := List.mem_map.mp m'
    rfl) (List.pairwise_map.mpr (nd.imp fun {a b} h => by simp; omega))
  obtain ⟨l', hl'⟩ : ∃ l' : List Nat, sortD (l.map fun x => .int (x : Nat)) = l'.map (fun x => .int (x : Nat)) := by
    have : ∀ ds : List D, (∀ d ∈ ds, ∃ x : Nat, d = .int (x : Nat)) → ∃ l' : List Nat, ds = l'.map (fun x => .int (x : Nat)) := by
      intro ds
      induction ds with
      | nil => intro _; exact ⟨[], rfl⟩
      | cons d ds ih =>
        intro h
        obtain ⟨x, rfl⟩ := h d List.mem_cons_self
        obtain ⟨l', rfl⟩ := ih fun d m => h d (List.mem_cons_of_mem _ m)
        exact ⟨x :: l', rfl⟩
    refine this _ fun d m => ?_
    obtain ⟨x, _, rfl⟩ := List.mem_map.mp (h1.subset m)
    exact ⟨x, rfl⟩
  refine ⟨l', hl', ?_, ?_⟩
  · rw [hl'] at h1
    have := h1.map fun d : D => match d with | .int i => i.toNat | _ => 0
    simpa [List.map_map, Function.comp_def] using this
  · rw [hl'] at h2
    have := List.pairwise_map.mp h2
    refine this.imp fun {a b} h => ?_
    rw [PySem.W.dataLt_int] at h
    simpa using h
theorem alike_nats (l : List Nat) : PySem.W.AllAlike (l.map fun x => .int (x : Nat)) ∧ PySem.W.Sortable (l.map fun x => .int (x : Nat)) ∧ ∀ d ∈ l.map (fun x => PyData.int (x : Nat)), d.depth ≤ 60 := by
  refine ⟨?_, .inr ?_, ?_⟩
  · intro d m d' m'
    obtain ⟨x, _, rfl⟩ := List.mem_map.mp m
    obtain ⟨y, _, rfl⟩ := List.mem_map.mp m'
    rfl
  · intro d m
    obtain ⟨x, _, rfl⟩ := List.mem_map.mp m
    exact ⟨by simp, by simp⟩
  · intro d m
    obtain ⟨x, _, rfl⟩ := List.mem_map.mp m
    simp
theorem ofString_eq (s : String) : Str.ofString s = Str.ofStringByList s := by rw [Str.ofString_eq_byList]
theorem strOk_of (s : String) : PyData.strOk (Str.ofString s) = true := by
  rw [ofString_eq]
  unfold PyData.strOk Str.ofStringByList
  rw [← Array.all_toList, List.all_eq_true]
  intro n m
  simp only [List.mem_map] at m
  obtain ⟨c, _, rfl⟩ := m
  rw [decide_eq_true_iff]
  have := c.valid
  show c.val.toNat < 0x110000
  rcases this with h | h
  · have : c.val.toNat < 0xd800 := h
    omega
  · exact h.2
/-- [1 for ..] beside [] -/
theorem ones {α : Type} (l : List α) : ∃ d, toD (.ow ((l.map fun _ => PyData.int 1).map .im)) = some d ∧ PyData.canLay0 d = true ∧ PyData.depth d ≤ 64 ∧ PyData.eqv d (PyData.list []) = l.isEmpty := by
  refine ⟨.list (l.map fun _ => .int 1), by rw [toD_ow, toDs_map]; rfl, ?_, ?_, ?_⟩
  · simp only [PyData.canLay0]; exact layAll_map fun _ _ => by simp
  · have h := depAll_map (f := fun _ : α => PyData.int 1) (l := l) (m := 0) fun _ _ => by simp
    simp only [PyData.depth]; omega
  · cases l <;> simp
theorem ones_or {α : Type} (l : List α) {P Q : Prop} (h1 : l = [] → P) (h2 : l ≠ [] → Q) : ∃ d, toD (.ow ((l.map fun _ => PyData.int 1).map .im)) = some d ∧ PyData.canLay0 d = true ∧ PyData.depth d ≤ 64 ∧ (PyData.eqv d (PyData.list []) = true ∧ P ∨ PyData.eqv d (PyData.list []) = false ∧ Q) := by
  obtain ⟨d, a, b, c, e⟩ := ones l
  refine ⟨d, a, b, c, ?_⟩
  rw [e]
  cases l with
  | nil => exact .inl ⟨rfl, h1 rfl⟩
  | cons x l => exact .inr ⟨rfl, h2 (by simp)⟩
end DL
set_option maxHeartbeats 1000000
namespace DL
open PySem PySem.Spec PyProof.Rows L2
def Ev (T : XE) (γ : List Cell) (d : D) : Prop := ∀ K : Cell → Prop, K (.im d) → T γ K
def EvA (U : XA) (γ : List Cell) (ds : List D) : Prop := ∀ K : List Cell → Prop, K (ds.map .im) → U γ K
section
variable {γ : List Cell} {T U V : XE} {A : XA} {d e : D} {ds : List D} {i : Nat}
theorem ev_c : Ev (xC d) γ d := fun K h => h
theorem ev_var (h : γ[i]? = some (.im d)) : Ev (xVar i) γ d := fun K k => ⟨_, h, rfl, k⟩
theorem ev_varR (h : γ[i]? = some (.im d)) : Ev (xVarR i) γ d := fun K k => ⟨_, h, (fun z => by cases z), k⟩
theorem ev_nil : EvA xNil γ [] := fun K h => h
theorem ev_cons (h : Ev T γ d) (k : EvA A γ ds) : EvA (xCons T A) γ (d :: ds) := fun K q => h _ (k _ q)
theorem ev_tup (h : EvA A γ ds) (hl : ds.length ≤ 1000) : Ev (xTup A) γ (.tuple ds) := fun K k => h _ ⟨ds, toDs_im ds, le_size hl, k⟩
theorem ev_lst (h : EvA A γ ds) (hl : ds.length ≤ 1000) {K : Cell → Prop} (k : K (.ow (ds.map .im))) : xLst A γ K := h _ ⟨by rw [List.length_map]; exact le_size hl, k⟩
theorem ev_fz (h : EvA A γ ds) (hl : ds.length ≤ 1000) : Ev (xFzE (xLst A)) γ (.list ds) := fun K k => ev_lst h hl (K := fun c => K (frz c)) (by rw [frz_ow]; exact k)
theorem ev_add {a b : Int} (h : Ev T γ (.int a)) (k : Ev U γ (.int b)) : Ev (x2 cAdd T U) γ (.int (a + b)) := fun K q => h _ (k _ (.inl ⟨a, b, rfl, rfl, q⟩))
theorem ev_i0 {f : Int → Int → Int} {a b : Int} (h : Ev T γ (.int a)) (k : Ev U γ (.int b)) : Ev (x2 (cI0 f) T U) γ (.int (f a b)) := fun K q => h _ (k _ ⟨a, b, rfl, rfl, q⟩)
theorem ev_neg {a : Int} (h : Ev T γ (.int a)) : Ev (x1 cNeg T) γ (.int (-a)) := fun K q => h _ ⟨a, rfl, q⟩
theorem ev_eqI {a b : Int} (h : Ev T γ (.int a)) (k : Ev U γ (.int b)) : Ev (x2 cEq T U) γ (.bool (a == b)) := fun K q => h _ (k _ ⟨.int a, .int b, rfl, rfl, by simp, by simp, by simpa using q⟩)
theorem ev_str {a : Int} (h : Ev T γ (.int a)) (hl : a.natAbs.log2 < 1920) : Ev (xCB cStr (xCons T xNil)) γ (.str (toString a)) := fun K q => h _ ⟨a, rfl, hl, q⟩
theorem ev_flat (h : Ev T γ d) : Ev (xFlat T) γ d := fun K q => h _ ⟨rfl, q⟩
theorem ev_ext {E : XEnds} {es : List D} (h : EvA A γ es) (hc : γ[i]? = some (.ow (ds.map .im))) (h1 : es.length ≤ 1000) (hl : ds.length + es.length ≤ 1000) (nx : E.nx (γ.set i (.ow ((ds ++ es).map .im)))) : sExt i (xLst A) E γ :=
  ⟨_, hc, ev_lst h h1 ⟨_, rfl, by rw [List.length_map, List.length_map]; exact le_size hl, by rw [← List.map_append]; exact nx⟩⟩
end
end DL
set_option maxHeartbeats 1000000
namespace L89
open PySem PySem.Spec PyProof.Rows L2 DL
def encL (l : List Nat) : D := .tuple (l.map fun x => .int (x : Nat))
def encP (p : Nat × Nat) : D := .tuple [.int p.1, .int p.2]
structure Bk where
  n : Nat
  ps : List (Nat × Nat)
def encB (b : Bk) : D := .tuple [.int b.n, .tuple (b.ps.map encP)]
abbrev Deed := Bool × Nat
def wd (b : Bool) : Str := if b = true then "pour" else "open"
def encDeed (d : Deed) : D := .tuple [.str (wd d.1), .int d.2]
def encS (s : List Deed) : D := .tuple (s.map encDeed)
abbrev Kd := List Nat × List Nat
def encK (k : Kd) : D := .tuple [encL k.1, encL k.2]
abbrev Ask := Kd × List Str
def encA (a : Ask) : D := .tuple [encK a.1, .tuple (a.2.map .str)]
def encAs (as : List Ask) : D := .tuple (as.map encA)
def lexP (p q : Nat × Nat) : Bool := if p.1 = q.1 then decide (p.2 < q.2) else decide (p.1 < q.1)
def Bk.ok (b : Bk) : Prop := 1 ≤ b.n ∧ b.n ≤ 5 ∧ (∀ p ∈ b.ps, p.1 < b.n ∧ p.2 < b.n ∧ p.1 ≠ p.2) ∧ b.ps.Pairwise fun p q => lexP p q = true
@[simp] theorem ok_pour : PyData.strOk (Str.ofString "pour") = true := by decide +kernel
@[simp] theorem ok_open : PyData.strOk (Str.ofString "open") = true := by decide +kernel
@[simp] theorem ok_wet : PyData.strOk (Str.ofString "wet") = true := by decide +kernel
@[simp] theorem ok_dry : PyData.strOk (Str.ofString "dry") = true := by decide +kernel
@[simp] theorem ok_kept : PyData.strOk (Str.ofString "kept") = true := by decide +kernel
@[simp] theorem ok_firm : PyData.strOk (Str.ofString "firm") = true := by decide +kernel
@[simp] theorem ok_echo : PyData.strOk (Str.ofString "echo") = true := by decide +kernel
@[simp] theorem ok_echos : PyData.strOk (Str.ofString "echos") = true := by decide +kernel
@[simp] theorem ne_pour_open : ¬ (Str.ofString "pour" = Str.ofString "open") := by decide +kernel
@[simp] theorem ne_pour_wet : ¬ (Str.ofString "pour" = Str.ofString "wet") := by decide +kernel
@[simp] theorem ne_pour_dry : ¬ (Str.ofString "pour" = Str.ofString "dry") := by decide +kernel
@[simp] theorem ne_pour_kept : ¬ (Str.ofString "pour" = Str.ofString "kept") := by decide +kernel
@[simp] theorem ne_pour_firm : ¬ (Str.ofString "pour" = Str.ofString "firm") := by decide +kernel
@[simp] theorem ne_pour_echo : ¬ (Str.ofString "pour" = Str.ofString "echo") := by decide +kernel
@[simp] theorem ne_pour_echos : ¬ (Str.ofString "pour" = Str.ofString "echos") := by decide +kernel
@[simp] theorem ne_open_pour : ¬ (Str.ofString "open" = Str.ofString "pour") := by decide +kernel
@[simp] theorem ne_open_wet : ¬ (Str.ofString "open" = Str.ofString "wet") := by decide +kernel
@[simp] theorem ne_open_dry : ¬ (Str.ofString "open" = Str.ofString "dry") := by decide +kernel
@[simp] theorem ne_open_kept : ¬ (Str.ofString "open" = Str.ofString "kept") := by decide +kernel
@[simp] theorem ne_open_firm : ¬ (Str.ofString "open" = Str.ofString "firm") := by decide +kernel
@[simp] theorem ne_open_echo : ¬ (Str.ofString "open" = Str.ofString "echo") := by decide +kernel
@[simp] theorem ne_open_echos : ¬ (Str.ofString "open" = Str.ofString "echos") := by decide +kernel
@[simp] theorem ne_wet_pour : ¬ (Str.ofString "wet" = Str.ofString "pour") := by decide +kernel
@[simp] theorem ne_wet_open : ¬ (Str.ofString "wet" = Str.ofString "open") := by decide +kernel
@[simp] theorem ne_wet_dry : ¬ (Str.ofString "wet" = Str.ofString "dry") := by decide +kernel
@[simp] theorem ne_wet_kept : ¬ (Str.ofString "wet" = Str.ofString "kept") := by decide +kernel
@[simp] theorem ne_wet_firm : ¬ (Str.ofString "wet" = Str.ofString "firm") := by decide +kernel
@[simp] theorem ne_wet_echo : ¬ (Str.ofString "wet" = Str.ofString "echo") := by decide +kernel
@[simp] theorem ne_wet_echos : ¬ (Str.ofString "wet" = Str.ofString "echos") := by decide +kernel
@[simp] theorem ne_dry_pour : ¬ (Str.ofString "dry" = Str.ofString "pour") := by decide +kernel
@[simp] theorem ne_dry_open : ¬ (Str.ofString "dry" = Str.ofString "open") := by decide +kernel
@[simp] theorem ne_dry_wet : ¬ (Str.ofString "dry" = Str.ofString "wet") := by decide +kernel
@[simp] theorem ne_dry_kept : ¬ (Str.ofString "dry" = Str.ofString "kept") := by decide +kernel
@[simp] theorem ne_dry_firm : ¬ (Str.ofString "dry" = Str.ofString "firm") := by decide +kernel
@[simp] theorem ne_dry_echo : ¬ (Str.ofString "dry" = Str.ofString "echo") := by decide +kernel
@[simp] theorem ne_dry_echos : ¬ (Str.ofString "dry" = Str.ofString "echos") := by decide +kernel
@[simp] theorem ne_kept_pour : ¬ (Str.ofString "kept" = Str.ofString "pour") := by decide +kernel
@[simp] theorem ne_kept_open : ¬ (Str.ofString "kept" = Str.ofString "open") := by decide +kernel
@[simp] theorem ne_kept_wet : ¬ (Str.ofString "kept" = Str.ofString "wet") := by decide +kernel
@[simp] theorem ne_kept_dry : ¬ (Str.ofString "kept" = Str.ofString "dry") := by decide +kernel
@[simp] theorem ne_kept_firm : ¬ (Str.ofString "kept" = Str.ofString "firm") := by decide +kernel
@[simp] theorem ne_kept_echo : ¬ (Str.ofString "kept" = Str.ofString "echo") := by decide +kernel
@[simp] theorem ne_kept_echos : ¬ (Str.ofString "kept" = Str.ofString "echos") := by decide +kernel
@[simp] theorem ne_firm_pour : ¬ (Str.ofString "firm" = Str.ofString "pour") := by decide +kernel
@[simp] theorem ne_firm_open : ¬ (Str.ofString "firm" = Str.ofString "open") := by decide +kernel
@[simp] theorem ne_firm_wet : ¬ (Str.ofString "firm" = Str.ofString "wet") := by decide +kernel
@[simp] theorem ne_firm_dry : ¬ (Str.ofString "firm" = Str.ofString "dry") := by decide +kernel
@[simp] theorem ne_firm_kept : ¬ (Str.ofString "firm" = Str.ofString "kept") := by decide +kernel
@[simp] theorem ne_firm_echo : ¬ (Str.ofString "firm" = Str.ofString "echo") := by decide +kernel
@[simp] theorem ne_firm_echos : ¬ (Str.ofString "firm" = Str.ofString "echos") := by decide +kernel
@[simp] theorem ne_echo_pour : ¬ (Str.ofString "echo" = Str.ofString "pour") := by decide +kernel
@[simp] theorem ne_echo_open : ¬ (Str.ofString "echo" = Str.ofString "open") := by decide +kernel
@[simp] theorem ne_echo_wet : ¬ (Str.ofString "echo" = Str.ofString "wet") := by decide +kernel
@[simp] theorem ne_echo_dry : ¬ (Str.ofString "echo" = Str.ofString "dry") := by decide +kernel
@[simp] theorem ne_echo_kept : ¬ (Str.ofString "echo" = Str.ofString "kept") := by decide +kernel
@[simp] theorem ne_echo_firm : ¬ (Str.ofString "echo" = Str.ofString "firm") := by decide +kernel
@[simp] theorem ne_echo_echos : ¬ (Str.ofString "echo" = Str.ofString "echos") := by decide +kernel
@[simp] theorem ne_echos_pour : ¬ (Str.ofString "echos" = Str.ofString "pour") := by decide +kernel
@[simp] theorem ne_echos_open : ¬ (Str.ofString "echos" = Str.ofString "open") := by decide +kernel
@[simp] theorem ne_echos_wet : ¬ (Str.ofString "echos" = Str.ofString "wet") := by decide +kernel
@[simp] theorem ne_echos_dry : ¬ (Str.ofString "echos" = Str.ofString "dry") := by decide +kernel
@[simp] theorem ne_echos_kept : ¬ (Str.ofString "echos" = Str.ofString "kept") := by decide +kernel
@[simp] theorem ne_echos_firm : ¬ (Str.ofString "echos" = Str.ofString "firm") := by decide +kernel
@[simp] theorem ne_echos_echo : ¬ (Str.ofString "echos" = Str.ofString "echo") := by decide +kernel
def isInt : D → Bool
  | .int _ => true
  | _ => false
def isBtw (l m : Int) : D → Bool
  | .int i => decide (l ≤ i) && decide (i ≤ m)
  | _ => false
def noDict : D → Bool
  | .dict _ => false
  | _ => true
abbrev Main (T : XS) (N : List Str) (S : FS) : Prop := ∀ cs K', S cs K' → T { nx := fun _ => K' (.im .none), rt := K' } (cs ++ List.replicate (N.length - cs.length) .un)
def S_is_integer : FS := fun cs K' => match cs with
  | [.im d] => noDict d = true ∧ K' (.im (.bool (isInt d)))
  | _ => False
theorem m_is_integer : Main T_is_integer N_is_integer S_is_integer := by
  intro cs K' h
  unfold S_is_integer at h
  split at h
  · rename_i d
    cases d <;> simp_all [T_is_integer, isInt, noDict]
  · exact h.elim
def S_is_between : FS := fun cs K' => match cs with
  | [.im d, .im (.int l), .im (.int m)] => noDict d = true ∧ K' (.im (.bool (isBtw l m d)))
  | _ => False
theorem m_is_between : Main (T_is_between S_is_integer) N_is_between S_is_between := by
  intro cs K' h
  unfold S_is_between at h
  split at h
  · rename_i d l m
    cases d <;> simp_all [T_is_between, S_is_integer, isInt, isBtw, noDict]
    rename_i i
    by_cases h1 : l ≤ i <;> simp_all <;> omega
  · exact h.elim
def S_is_pair_of : FS := fun cs K' => ∃ (n : Nat) (p : Nat × Nat), cs = [.im (.int n), .im (encP p)] ∧ (p.1 < n ∧ p.2 < n ∧ p.1 ≠ p.2) ∧ K' (.im (.bool true))
theorem m_is_pair_of : Main (T_is_pair_of S_is_between) N_is_pair_of S_is_pair_of := by
  rintro cs K' ⟨n, ⟨a, b⟩, rfl, ⟨h1, h2, h3⟩, h⟩
  have e1 : isBtw 0 ((n : Int) - 1) (.int a) = true := by simp [isBtw]; omega
  have e2 : isBtw 0 ((n : Int) - 1) (.int b) = true := by simp [isBtw]; omega
  have e3 : ((a : Int) == b) = false := by simp; omega
  simp [T_is_pair_of, S_is_between, encP, noDict, e1, e2, e3, h]
def S_is_book_value : FS := fun cs K' => ∃ b : Bk, cs = [.im (encB b)] ∧ b.ok ∧ K' (.im (.bool true))
theorem m_is_book_value : Main (T_is_book_value S_is_between S_is_pair_of) N_is_book_value S_is_book_value := by
  rintro cs K' ⟨⟨n, ps⟩, rfl, ⟨h1, h2, h3, h4⟩, h⟩
  have e1 : isBtw 1 10 (.int n) = true := by simp [isBtw]; simp at h1 h2; omega
  simp only [] at h1 h2 h3 h4
  simp [T_is_book_value, encB, S_is_between, noDict, e1]
  refine comp_trues encP ps (fun p hp K1 K0 h => ?_) ⟨_, lstF_trues ps, ?_⟩
  · simp [S_is_pair_of]
    exact ⟨n, rfl, p.1, p.2, rfl, (h3 p hp).1, (h3 p hp).2.1, (h3 p hp).2.2, h⟩
  rw [if_neg (no_false ps), zip_next_map]
  refine comp_trues _ _ (fun p hp K1 K0 h => ?_) ⟨_, lstF_trues _, by simpa using h⟩
  have := pair_next h4 p hp
  simp [encP, ordB, ordBs, ltB, ltBs]
  refine bool_to ?_ h
  unfold lexP at this
  by_cases e : p.1.1 = p.2.1
  · simp_all; omega
  · have e' : ¬ (p.1.1 : Int) = p.2.1 := by omega
    simp_all
def S_need_book : FS := fun cs K' => ∃ b : Bk, cs = [.im (encB b)] ∧ b.ok ∧ K' (.im .none)
theorem m_need_book : Main (T_need_book S_is_book_value) N_need_book S_need_book := by
  rintro cs K' ⟨b, rfl, ok, h⟩
  simp [T_need_book, S_is_book_value]
  exact ⟨b, rfl, ok, h⟩
/-- pairs of names below n, n small -/
def Bk.in (b : Bk) : Prop := b.n ≤ 5 ∧ ∀ p ∈ b.ps, p.1 < b.n ∧ p.2 < b.n
theorem Bk.ok.in {b : Bk} (h : b.ok) : b.in := ⟨h.2.1, fun p m => ⟨(h.2.2.1 p m).1, (h.2.2.1 p m).2.1⟩⟩
def rowOk (b : Bk) (r : Nat → Nat → Prop) (f : List Nat) : Prop := f.length = b.n ∧ ∀ x, x < b.n → ∀ a, (f.getD x 0).testBit a = true ↔ (a = x ∨ r a x)
/-- bits put into rows -/
theorem rows_fold (n : Nat) (t sb : Nat × Nat → Nat) : ∀ (ps : List (Nat × Nat)) (f : List Nat), f.length = n → (∀ p ∈ ps, t p < n) →
    (ps.foldl (fun f p => f.set (t p) (f.getD (t p) 0 ||| 2 ^ sb p)) f).length = n ∧ ∀ x a, ((ps.foldl (fun f p => f.set (t p) (f.getD (t p) 0 ||| 2 ^ sb p)) f).getD x 0).testBit a = true ↔ (f.getD x 0).testBit a = true ∨ ∃ p ∈ ps, t p = x ∧ sb p = a
  | [], f, hl, _ => ⟨hl, fun x a => by simp⟩
  | p :: ps, f, hl, hp => by
    have h0 : t p < f.length := by rw [hl]; exact hp p List.mem_cons_self
    obtain ⟨h1, h2⟩ := rows_fold n t sb ps (f.set (t p) (f.getD (t p) 0 ||| 2 ^ sb p)) (by simpa using hl) fun q m => hp q (List.mem_cons_of_mem _ m)
    refine ⟨h1, fun x a => ?_⟩
    rw [List.foldl_cons, h2 x a, getD_set _ _ _ _ h0]
    by_cases e : x = t p
    · subst e
      simp only [if_true, Nat.testBit_or, Bool.or_eq_true, Nat.testBit_two_pow, decide_eq_true_eq, List.mem_cons]
      constructor
      · rintro ((h | h) | ⟨q, m, h⟩)
        · exact .inl h
        · exact .inr ⟨p, .inl rfl, rfl, h⟩
        · exact .inr ⟨q, .inr m, h⟩
      · rintro (h | ⟨q, rfl | m, h⟩)
        · exact .inl (.inl h)
        · exact .inl (.inr h.2)
        · exact .inr ⟨q, m, h⟩
    · simp only [e, if_false, List.mem_cons]
      constructor
      · rintro (h | ⟨q, m, h⟩)
        · exact .inl h
        · exact .inr ⟨q, .inr m, h⟩
      · rintro (h | ⟨q, rfl | m, h⟩)
        · exact .inl h
        · exact absurd h.1.symm e
        · exact .inr ⟨q, m, h⟩
theorem pow_rows (n x a : Nat) (h : x < n) : (((List.range n).map fun i => 2 ^ i).getD x 0).testBit a = true ↔ a = x := by
  rw [List.getD_eq_getElem?_getD]
  simp [h, Nat.testBit_two_pow, eq_comm]
def S_lows : FS := fun cs K' => ∃ b : Bk, cs = [.im (encB b)] ∧ b.in ∧ ∀ f, rowOk b (fun a x => (a, x) ∈ b.ps) f → K' (.ow ((nats f).map .im))
theorem m_lows : Main T_lows N_lows S_lows := by
  rintro cs K' ⟨⟨n, ps⟩, rfl, ⟨h1, h2⟩, h⟩
  simp only [] at h1 h2
  simp [T_lows, encB]
  refine ⟨by omega, compGo_map (fun i => .int (i : Nat)) (fun i => .int ((2 ^ i : Nat) : Nat)) (List.range n) (fun i hi K1 K0 hk => ?_) ?_⟩
  · have hi' : i < n := by simpa using hi
    simp [cpow_one i (by omega)]
    simpa using hk
  · obtain ⟨g1, g2⟩ := rows_fold n (·.2) (·.1) ps ((List.range n).map fun i => 2 ^ i) (by simp) fun p m => (h2 p m).2
    refine forGo_fold encP (fun f p => f.set p.2 (f.getD p.2 0 ||| 2 ^ p.1)) (fun f γ => f.length = n ∧ ∃ ca cb, γ = [Cell.im (.tuple [.int n, .tuple (ps.map encP)]), .ow ((nats f).map .im), ca, cb, .un]) ((List.range n).map fun i => 2 ^ i) ps _ ⟨by simp, .un, .un, ?_⟩ (fun p hp f γ ⟨hl, ca, cb, e⟩ nx hn => ?_) fun γ ⟨hl, ca, cb, e⟩ => ?_
    · simp [nats]
    · subst e
      have hb : p.2 < f.length := by rw [hl]; exact (h2 p hp).2
      simp [encP, natsC_at hb, cpow_one p.1 (by have := (h2 p hp).1; omega), ixN_nat hb]
      refine hn _ ⟨by simpa using hl, .im (.int p.1), .im (.int p.2), ?_⟩
      rw [show ((2 : Int) ^ p.1) = ((2 ^ p.1 : Nat) : Int) by simp, bor_nat, natsC_set, List.getD_eq_getElem?_getD]
    · subst e
      simp [-List.getD_eq_getElem?_getD]
      refine h _ ⟨hl, fun x hx a => ?_⟩
      rw [g2 x a, pow_rows n x a hx]
      constructor
      · rintro (z | ⟨p, m, rfl, rfl⟩)
        · exact .inl z
        · exact .inr m
      · rintro (z | z)
        · exact .inl z
        · exact .inr ⟨(a, x), z, rfl, rfl⟩
def S_highs : FS := fun cs K' => ∃ b : Bk, cs = [.im (encB b)] ∧ b.in ∧ ∀ f, rowOk b (fun a x => (x, a) ∈ b.ps) f → K' (.ow ((nats f).map .im))
theorem m_highs : Main T_highs N_highs S_highs := by
  rintro cs K' ⟨⟨n, ps⟩, rfl, ⟨h1, h2⟩, h⟩
  simp only [] at h1 h2
  simp [T_highs, encB]
  refine ⟨by omega, compGo_map (fun i => .int (i : Nat)) (fun i => .int ((2 ^ i : Nat) : Nat)) (List.range n) (fun i hi K1 K0 hk => ?_) ?_⟩
  · have hi' : i < n := by simpa using hi
    simp [cpow_one i (by omega)]
    simpa using hk
  · obtain ⟨g1, g2⟩ := rows_fold n (·.1) (·.2) ps ((List.range n).map fun i => 2 ^ i) (by simp) fun p m => (h2 p m).1
    refine forGo_fold encP (fun f p => f.set p.1 (f.getD p.1 0 ||| 2 ^ p.2)) (fun f γ => f.length = n ∧ ∃ ca cb, γ = [Cell.im (.tuple [.int n, .tuple (ps.map encP)]), .ow ((nats f).map .im), ca, cb, .un]) ((List.range n).map fun i => 2 ^ i) ps _ ⟨by simp, .un, .un, ?_⟩ (fun p hp f γ ⟨hl, ca, cb, e⟩ nx hn => ?_) fun γ ⟨hl, ca, cb, e⟩ => ?_
    · simp [nats]
    · subst e
      have hb : p.1 < f.length := by rw [hl]; exact (h2 p hp).1
      simp [encP, natsC_at hb, cpow_one p.2 (by have := (h2 p hp).2; omega), ixN_nat hb]
      refine hn _ ⟨by simpa using hl, .im (.int p.1), .im (.int p.2), ?_⟩
      rw [show ((2 : Int) ^ p.2) = ((2 ^ p.2 : Nat) : Int) by simp, bor_nat, natsC_set, List.getD_eq_getElem?_getD]
    · subst e
      simp [-List.getD_eq_getElem?_getD]
      refine h _ ⟨hl, fun x hx a => ?_⟩
      rw [g2 x a, pow_rows n x a hx]
      constructor
      · rintro (z | ⟨p, m, rfl, rfl⟩)
        · exact .inl z
        · exact .inr m
      · rintro (z | z)
        · exact .inl z
        · exact .inr ⟨(x, a), z, rfl, rfl⟩
/-- a lies below x whatever the order is that holds the book's pairs -/
def Tr (b : Bk) (a x : Nat) : Prop := ∀ R : Nat → Nat → Prop, (∀ a, R a a) → (∀ a b c, R a b → R b c → R a c) → (∀ p ∈ b.ps, R p.1 p.2) → R a x
def Sound (b C : Bk) : Prop := C.n = b.n ∧ ∀ p ∈ C.ps, p.1 < b.n ∧ p.2 < b.n ∧ Tr b p.1 p.2
def S_hill_of_lows : FS := fun cs K' => ∃ f : List Nat, cs = [.im (.list (nats f))] ∧ f.length ≤ 5 ∧ ∀ C : Bk, C.n = f.length → (∀ p ∈ C.ps, p.1 < f.length ∧ p.2 < f.length ∧ (f.getD p.2 0).testBit p.1 = true) → K' (.im (encB C))
theorem m_hill_of_lows : Main T_hill_of_lows N_hill_of_lows S_hill_of_lows := by
  rintro cs K' ⟨f, rfl, h1, h⟩
  simp [T_hill_of_lows]
  refine ⟨by omega, compGo2_fm (fun i => .int (i : Nat)) (fun i => .int (i : Nat)) (fun _ => List.range f.length) (fun a => [.im (.list (nats f)), .im (.int f.length), .un, .im (.int (a : Nat)), .un]) (fun a b => decide (a ≠ b) && (f.getD b 0).testBit a) (fun a b => encP (a, b)) f.length (List.range f.length) []
    (fun a ha P P0 hP => ?_) (fun a ha b hb K1 K0 k1 k0 => ?_) (fun _ _ => by simp) (by simp; exact le_size (Nat.le_trans (Nat.mul_le_mul h1 h1) (by decide))) ?_⟩
  · simp
    exact ⟨by omega, by simpa using hP⟩
  · have hb' : b < f.length := by simpa using hb
    simp [nats_at hb', bit_at', -List.getD_eq_getElem?_getD]
    by_cases e : a = b
    · subst e; exact .inl ⟨rfl, k0 (by simp)⟩
    · have e' : ¬ (a : Int) = b := by omega
      refine .inr ⟨e', ?_⟩
      by_cases hbit : (f.getD b 0).testBit a = true
      · rw [if_pos hbit]
        exact k1 (by simp [e, hbit, -List.getD_eq_getElem?_getD])
      · rw [if_neg hbit]
        exact k0 (by simp [hbit, -List.getD_eq_getElem?_getD])
  · have := h ⟨f.length, (List.range f.length).flatMap fun a => ((List.range f.length).filter fun b => decide (a ≠ b) && (f.getD b 0).testBit a).map fun b => (a, b)⟩ rfl fun p hp => by
      obtain ⟨a, ha, hp⟩ := List.mem_flatMap.mp hp
      obtain ⟨b, hb, rfl⟩ := List.mem_map.mp hp
      obtain ⟨hb1, hb2⟩ := List.mem_filter.mp hb
      simp only [Bool.and_eq_true] at hb2
      exact ⟨by simpa using ha, by simpa using hb1, hb2.2⟩
    have e : ∀ l : List (Nat × Nat), seqF (.ow ((l.map encP).map .im)) = some (l.map encP) := fun l => seqF_o
    have e2 := e ((List.range f.length).flatMap fun a => ((List.range f.length).filter fun b => decide (a ≠ b) && (f.getD b 0).testBit a).map fun b => (a, b))
    simp [List.map_flatMap, Function.comp_def] at e2
    simp [encB, List.map_flatMap, Function.comp_def] at this ⊢
    exact ⟨_, e2, this⟩
def S_closing_of : FS := fun cs K' => ∃ b : Bk, cs = [.im (encB b)] ∧ b.in ∧ ∀ C, Sound b C → K' (.im (encB C))
theorem forGo_inv {α : Type} (enc : α → D) (I : List Cell → Prop) {G : XG} {T : XS} {E : XEnds} (xs : List α) (γ : List Cell) (h : I γ) (hs : ∀ x ∈ xs, ∀ γ, I γ → ∀ nx : List Cell → Prop, (∀ γ', I γ' → nx γ') → G (enc x) γ fun γ2 => T { E with nx := nx, ct := nx, bk := E.nx } γ2) (he : ∀ γ, I γ → E.nx γ) : forGo G T E (xs.map enc) γ :=
  forGo_fold enc (fun _ _ => ()) (fun _ γ => I γ) () xs γ h (fun x m _ γ h => hs x m γ h) he
def rowTr (b : Bk) (f : List Nat) : Prop := f.length = b.n ∧ ∀ x, x < b.n → ∀ a, (f.getD x 0).testBit a = true → a < b.n ∧ Tr b a x
theorem rowTr_of {b : Bk} {f : List Nat} (h1 : b.in) (h : rowOk b (fun a x => (a, x) ∈ b.ps) f) : rowTr b f := by
  refine ⟨h.1, fun x hx a ha => ?_⟩
  rcases (h.2 x hx a).mp ha with rfl | m
  · exact ⟨hx, fun R r _ _ => r a⟩
  · exact ⟨(h1.2 _ m).1, fun R _ _ p => p _ m⟩
theorem rowTr_set {b : Bk} {f : List Nat} {x m : Nat} (h : rowTr b f) (hx : x < b.n) (hm : m < b.n) (hb : (f.getD x 0).testBit m = true) : rowTr b (f.set x (f.getD x 0 ||| f.getD m 0)) := by
  refine ⟨by simpa using h.1, fun y hy a ha => ?_⟩
  rw [getD_set _ _ _ _ (by rw [h.1]; exact hx)] at ha
  by_cases e : y = x
  · subst e
    rw [if_pos rfl, Nat.testBit_or, Bool.or_eq_true] at ha
    rcases ha with ha | ha
    · exact h.2 y hy a ha
    · have h1 := h.2 m hm a ha
      have h2 := h.2 y hy m hb
      exact ⟨h1.1, fun R r t p => t _ _ _ (h1.2 R r t p) (h2.2 R r t p)⟩
  · rw [if_neg e] at ha
    exact h.2 y hy a ha
theorem m_closing_of : Main (T_closing_of S_lows S_hill_of_lows) N_closing_of S_closing_of := by
  rintro cs K' ⟨b, rfl, h1, h⟩
  simp [T_closing_of]
  refine ⟨b, rfl, h1, fun f0 hf0 => ?_⟩
  have h5 := h1.1
  simp [encB]
  refine ⟨by omega, forGo_inv (fun i => .int (i : Nat)) (fun γ => ∃ f ca cb, rowTr b f ∧ γ = [Cell.im (.tuple [.int b.n, .tuple (b.ps.map encP)]), .ow ((nats f).map .im), ca, cb]) (List.range b.n) _ ⟨f0, .un, .un, rowTr_of h1 hf0, rfl⟩ ?_ ?_⟩
  · rintro m hm γ ⟨f, ca, cb, hf, rfl⟩ nx hn
    simp at hm
    simp
    refine ⟨by omega, forGo_inv (fun i => .int (i : Nat)) (fun γ => ∃ f cb, rowTr b f ∧ γ = [Cell.im (.tuple [.int b.n, .tuple (b.ps.map encP)]), .ow ((nats f).map .im), .im (.int m), cb]) (List.range b.n) _ ⟨f, cb, hf, rfl⟩ ?_ ?_⟩
    · rintro x hx γ ⟨f, cb, hf, rfl⟩ nx hn
      simp at hx
      have hx' : x < f.length := by rw [hf.1]; exact hx
      have hm' : m < f.length := by rw [hf.1]; exact hm
      simp [natsC_at hx', natsC_at hm', ixN_nat hx', bit_at', bor_nat, natsC_set, -List.getD_eq_getElem?_getD]
      by_cases hb : (f.getD x 0).testBit m = true
      · rw [if_pos hb]
        exact hn _ ⟨_, _, rowTr_set hf hx hm hb, rfl⟩
      · rw [if_neg hb]
        exact hn _ ⟨f, _, hf, rfl⟩
    · rintro γ ⟨f, cb, hf, rfl⟩
      exact hn _ ⟨f, _, _, hf, rfl⟩
  · rintro γ ⟨f, ca, cb, hf, rfl⟩
    simp
    refine ⟨f, rfl, by rw [hf.1]; exact h5, fun C hC hp => h C ⟨by rw [hC, hf.1], fun p m => ?_⟩⟩
    obtain ⟨p1, p2, p3⟩ := hp p m
    rw [hf.1] at p1 p2
    exact ⟨p1, p2, (hf.2 _ p2 _ p3).2⟩
def encN (x : Nat) : D := .int (x : Nat)
def maskOf (l : List Nat) : Nat := l.foldl (fun m x => m ||| 2 ^ x) 0
theorem maskOf_bit (l : List Nat) (a : Nat) : (maskOf l).testBit a = true ↔ a ∈ l := by
  have key : ∀ (l : List Nat) (m : Nat), (l.foldl (fun m x => m ||| 2 ^ x) m).testBit a = true ↔ m.testBit a = true ∨ a ∈ l := by
    intro l
    induction l with
    | nil => intro m; simp
    | cons x l ih =>
      intro m
      rw [List.foldl_cons, ih, Nat.testBit_or, Bool.or_eq_true, Nat.testBit_two_pow, decide_eq_true_eq, List.mem_cons]
      constructor
      · rintro ((h | h) | h)
        · exact .inl h
        · exact .inr (.inl h.symm)
        · exact .inr (.inr h)
      · rintro (h | rfl | h)
        · exact .inl (.inl h)
        · exact .inl (.inr rfl)
        · exact .inr h
  have := key l 0
  simpa [maskOf] using this
def S_mask_of : FS := fun cs K' => ∃ l : List Nat, cs = [.im (encL l)] ∧ (∀ x ∈ l, x < 5) ∧ K' (.im (.int (maskOf l : Nat)))
theorem m_mask_of : Main T_mask_of N_mask_of S_mask_of := by
  rintro cs K' ⟨l, rfl, h1, h⟩
  simp [T_mask_of, encL]
  refine forGo_fold encN (fun m x => m ||| 2 ^ x) (fun m γ => ∃ ca, γ = [Cell.im (encL l), .im (.int (m : Nat)), ca]) 0 l _ ⟨.un, rfl⟩ ?_ ?_
  · rintro x hx m γ ⟨ca, rfl⟩ nx hn
    simp [encN, cpow_one x (by have := h1 x hx; omega)]
    refine hn _ ⟨.im (.int (x : Nat)), ?_⟩
    rw [show ((2 : Int) ^ x) = ((2 ^ x : Nat) : Int) by simp, bor_nat]
  · rintro γ ⟨ca, rfl⟩
    simpa [maskOf] using h
theorem bits_lt {m a : Nat} (h : m.testBit a = true) : a < Builtin.Int.intBits (m : Nat) := by
  have h0 : 2 ^ a ≤ m := Nat.ge_two_pow_of_testBit h
  have hp : 0 < 2 ^ a := Nat.two_pow_pos a
  unfold Builtin.Int.intBits
  have e : ((m : Int) == 0) = false := by simp; omega
  rw [e]
  simp
  have := (Nat.le_log2 (by omega : m ≠ 0)).mpr h0
  omega
theorem bits_le {m : Nat} (h : m < 2 ^ 16) : Builtin.Int.intBits (m : Nat) ≤ 17 := by
  unfold Builtin.Int.intBits
  by_cases e : m = 0
  · subst e; simp
  · have e' : ((m : Int) == 0) = false := by simp; omega
    rw [e']
    simp
    have := (Nat.log2_lt (by omega : m ≠ 0)).mpr h
    omega
def S_lot_of : FS := fun cs K' => ∃ m : Nat, cs = [.im (.int m)] ∧ m < 2 ^ 16 ∧ ∀ l : List Nat, (∀ a, a ∈ l ↔ m.testBit a = true) → K' (.im (encL l))
theorem m_lot_of : Main T_lot_of N_lot_of S_lot_of := by
  rintro cs K' ⟨m, rfl, h1, h⟩
  have hb := bits_le h1
  simp [T_lot_of]
  refine ⟨by omega, compGo_fm encN (fun x => m.testBit x) encN (List.range (Builtin.Int.intBits m)) (fun x hx K1 K0 k1 k0 => ?_) ?_⟩
  · simp [encN, bit_at']
    by_cases e : m.testBit x = true
    · rw [if_pos e]; exact k1 e
    · rw [if_neg e]; exact k0 (by simpa using e)
  · refine ⟨_, seqF_o, h _ fun a => ?_⟩
    simp
    exact bits_lt
def S_closed_mask : FS := fun cs K' => ∃ (f : List Nat) (m : Nat), cs = [.ow ((nats f).map .im), .im (.int m)] ∧ m < 2 ^ 16 ∧ (∀ a, m.testBit a = true → a < f.length) ∧ ∀ M : Nat, (∀ a, M.testBit a = true ↔ ∃ x, m.testBit x = true ∧ (f.getD x 0).testBit a = true) → K' (.im (.int (M : Nat)))
theorem or_fold (f : List Nat) (a : Nat) : ∀ (l : List Nat) (m : Nat), (l.foldl (fun m x => m ||| f.getD x 0) m).testBit a = true ↔ m.testBit a = true ∨ ∃ x ∈ l, (f.getD x 0).testBit a = true
  | [], m => by simp
  | x :: l, m => by
    rw [List.foldl_cons, or_fold f a l, Nat.testBit_or, Bool.or_eq_true]
    constructor
    · rintro ((h | h) | ⟨y, m, h⟩)
      · exact .inl h
      · exact .inr ⟨x, by simp, h⟩
      · exact .inr ⟨y, by simp [m], h⟩
    · rintro (h | ⟨y, m, h⟩)
      · exact .inl (.inl h)
      · rcases List.mem_cons.mp m with rfl | m
        · exact .inl (.inr h)
        · exact .inr ⟨y, m, h⟩
theorem m_closed_mask : Main (T_closed_mask S_lot_of) N_closed_mask S_closed_mask := by
  rintro cs K' ⟨f, m, rfl, h1, h2, h⟩
  simp [T_closed_mask]
  refine ⟨m, rfl, h1, fun l hl => ?_⟩
  simp [encL]
  refine forGo_fold encN (fun m x => m ||| f.getD x 0) (fun M γ => ∃ ca, γ = [.ow ((nats f).map .im), .im (.int m), .im (.int (M : Nat)), ca]) 0 l _ ⟨.un, rfl⟩ ?_ ?_
  · rintro x hx M γ ⟨ca, rfl⟩ nx hn
    have hx' : x < f.length := h2 x ((hl x).mp hx)
    simp [encN, natsC_at hx', bor_nat, -List.getD_eq_getElem?_getD]
    exact hn _ ⟨_, rfl⟩
  · rintro γ ⟨ca, rfl⟩
    simp [-List.getD_eq_getElem?_getD]
    refine h _ fun a => ?_
    rw [or_fold]
    simp [hl, -List.getD_eq_getElem?_getD]
def below (C : Bk) (a x : Nat) : Prop := a = x ∨ (a, x) ∈ C.ps
def S_lower_mask : FS := fun cs K' => ∃ (C : Bk) (m : Nat), cs = [.im (encB C), .im (.int m)] ∧ C.in ∧ m < 2 ^ 16 ∧ (∀ a, m.testBit a = true → a < C.n) ∧ ∀ M : Nat, (∀ a, M.testBit a = true ↔ ∃ x, m.testBit x = true ∧ below C a x) → K' (.im (.int (M : Nat)))
theorem m_lower_mask : Main (T_lower_mask S_closed_mask S_lows) N_lower_mask S_lower_mask := by
  rintro cs K' ⟨C, m, rfl, h0, h1, h2, h⟩
  simp [T_lower_mask]
  refine ⟨C, rfl, h0, fun f hf => ?_⟩
  refine ⟨f, m, rfl, h1, fun a ha => by rw [hf.1]; exact h2 a ha, fun M hM => h M fun a => ?_⟩
  rw [hM]
  exact ⟨fun ⟨x, p, q⟩ => ⟨x, p, (hf.2 x (h2 x p) a).mp q⟩, fun ⟨x, p, q⟩ => ⟨x, p, (hf.2 x (h2 x p) a).mpr q⟩⟩
def S_upper_mask : FS := fun cs K' => ∃ (C : Bk) (m : Nat), cs = [.im (encB C), .im (.int m)] ∧ C.in ∧ m < 2 ^ 16 ∧ (∀ a, m.testBit a = true → a < C.n) ∧ ∀ M : Nat, (∀ a, M.testBit a = true ↔ ∃ x, m.testBit x = true ∧ (a = x ∨ (x, a) ∈ C.ps)) → K' (.im (.int (M : Nat)))
theorem m_upper_mask : Main (T_upper_mask S_closed_mask S_highs) N_upper_mask S_upper_mask := by
  rintro cs K' ⟨C, m, rfl, h0, h1, h2, h⟩
  simp [T_upper_mask]
  refine ⟨C, rfl, h0, fun f hf => ?_⟩
  refine ⟨f, m, rfl, h1, fun a ha => by rw [hf.1]; exact h2 a ha, fun M hM => h M fun a => ?_⟩
  rw [hM]
  exact ⟨fun ⟨x, p, q⟩ => ⟨x, p, (hf.2 x (h2 x p) a).mp q⟩, fun ⟨x, p, q⟩ => ⟨x, p, (hf.2 x (h2 x p) a).mpr q⟩⟩
def LotOk (n : Nat) (l : List Nat) : Prop := l.Pairwise (· < ·) ∧ ∀ x ∈ l, x < n
def S_is_lot_value : FS := fun cs K' => ∃ (C : Bk) (l : List Nat), cs = [.im (encB C), .im (encL l)] ∧ LotOk C.n l ∧ K' (.im (.bool true))
theorem m_is_lot_value : Main (T_is_lot_value S_is_between) N_is_lot_value S_is_lot_value := by
  rintro cs K' ⟨C, l, rfl, ⟨h1, h2⟩, h⟩
  simp [T_is_lot_value, encL]
  refine comp_trues encN l (fun x hx K1 K0 h => ?_) ⟨_, lstF_trues l, ?_⟩
  · have e : isBtw 0 ((C.n : Int) - 1) (.int x) = true := by have := h2 x hx; simp [isBtw]; omega
    simp [S_is_between, encN, encB, noDict, e, h]
  rw [if_neg (no_false l), show (fun x : Nat => PyData.int (x : Nat)) = encN from rfl, zip_next_map]
  refine comp_trues _ _ (fun p hp K1 K0 h => ?_) ⟨_, lstF_trues _, by simpa using h⟩
  have := pair_next h1 p hp
  simp [encN, ordB, ltB]
  exact bool_to (by simpa using this) h
theorem lot_mask {n : Nat} {l : List Nat} (h : LotOk n l) (hn : n ≤ 5) : maskOf l < 2 ^ 16 := by
  refine Nat.lt_of_lt_of_le (Nat.lt_pow_two_of_testBit (n := 5) _ fun i hi => ?_) (by decide)
  cases e : (maskOf l).testBit i with
  | false => rfl
  | true => have := h.2 i ((maskOf_bit l i).mp e); omega
def S_is_lower_value : FS := fun cs K' => ∃ (C : Bk) (l : List Nat), cs = [.im (encB C), .im (encL l)] ∧ C.in ∧ LotOk C.n l ∧ (∀ a x, (a, x) ∈ C.ps → x ∈ l → a ∈ l) ∧ K' (.im (.bool true))
theorem m_is_lower_value : Main (T_is_lower_value S_is_lot_value S_lower_mask S_mask_of) N_is_lower_value S_is_lower_value := by
  rintro cs K' ⟨C, l, rfl, h0, h1, h2, h⟩
  simp [T_is_lower_value, -Bool.exists_bool]
  refine ⟨C, l, rfl, h1, true, rfl, ?_⟩
  rw [if_pos rfl]
  refine ⟨l, rfl, fun x hx => by have := h1.2 x hx; have := h0.1; omega, C, _, rfl, h0, lot_mask h1 h0.1, fun a ha => h1.2 a ((maskOf_bit l a).mp ha), fun M hM => ⟨l, rfl, fun x hx => by have := h1.2 x hx; have := h0.1; omega, ?_⟩⟩
  have e : M = maskOf l := Nat.eq_of_testBit_eq fun a => by
    rw [Bool.eq_iff_iff, hM, maskOf_bit]
    constructor
    · rintro ⟨x, p, rfl | q⟩
      · exact (maskOf_bit l _).mp p
      · exact h2 a x q ((maskOf_bit l x).mp p)
    · intro m
      exact ⟨a, (maskOf_bit l a).mpr m, .inl rfl⟩
  subst e
  simpa using h
def S_is_upper_value : FS := fun cs K' => ∃ (C : Bk) (l : List Nat), cs = [.im (encB C), .im (encL l)] ∧ C.in ∧ LotOk C.n l ∧ (∀ a x, (x, a) ∈ C.ps → x ∈ l → a ∈ l) ∧ K' (.im (.bool true))
theorem m_is_upper_value : Main (T_is_upper_value S_is_lot_value S_upper_mask S_mask_of) N_is_upper_value S_is_upper_value := by
  rintro cs K' ⟨C, l, rfl, h0, h1, h2, h⟩
  simp [T_is_upper_value, -Bool.exists_bool]
  refine ⟨C, l, rfl, h1, true, rfl, ?_⟩
  rw [if_pos rfl]
  refine ⟨l, rfl, fun x hx => by have := h1.2 x hx; have := h0.1; omega, C, _, rfl, h0, lot_mask h1 h0.1, fun a ha => h1.2 a ((maskOf_bit l a).mp ha), fun M hM => ⟨l, rfl, fun x hx => by have := h1.2 x hx; have := h0.1; omega, ?_⟩⟩
  have e : M = maskOf l := Nat.eq_of_testBit_eq fun a => by
    rw [Bool.eq_iff_iff, hM, maskOf_bit]
    constructor
    · rintro ⟨x, p, rfl | q⟩
      · exact (maskOf_bit l _).mp p
      · exact h2 a x q ((maskOf_bit l x).mp p)
    · intro m
      exact ⟨a, (maskOf_bit l a).mpr m, .inl rfl⟩
  subst e
  simpa using h
def reaches (d : Deed) (k : Kd) : Bool := decide (d.2 ∈ if d.1 = true then k.2 else k.1)
def left (d : Deed) : Str := if d.1 = true then "wet" else "dry"
def stOf : Option Deed → Str
  | some d => left d
  | none => "kept"
def standing (s : List Deed) (k : Kd) : Str := stOf (s.reverse.find? fun d => reaches d k)
def S_standing_of : FS := fun cs K' => ∃ (s : List Deed) (k : Kd), cs = [.im (encS s), .im (encL k.1), .im (encL k.2)] ∧ K' (.im (.str (standing s k)))
theorem m_standing_of : Main T_standing_of N_standing_of S_standing_of := by
  rintro cs K' ⟨s, k, rfl, h⟩
  simp [T_standing_of, encS]
  rw [← List.map_reverse]
  refine forGo_enc encDeed (I := fun rest γ => (∃ c1 c2, γ = [.im (encS s), .im (encL k.1), .im (encL k.2), c1, c2]) ∧ stOf (rest.find? fun d => reaches d k) = standing s k) ?_ ?_ _ _ ⟨⟨_, _, rfl⟩, rfl⟩
  · rintro γ ⟨⟨c1, c2, rfl⟩, e⟩
    simp
    rw [← e] at h
    exact h
  · rintro ⟨w, x⟩ rest γ ⟨⟨c1, c2, rfl⟩, e⟩ nx hn
    rw [List.find?_cons] at e
    cases w
    · simp [encDeed, wd, encL]
      by_cases m : x ∈ k.1
      · rw [if_pos ((ex_nat _ _).mpr m)]
        simp [reaches, m, stOf, left] at e
        rw [← e] at h
        exact h
      · rw [if_neg fun z => m ((ex_nat _ _).mp z)]
        simp [reaches, m] at e
        exact hn _ ⟨⟨_, _, rfl⟩, e⟩
    · simp [encDeed, wd, encL]
      by_cases m : x ∈ k.2
      · rw [if_pos ((ex_nat _ _).mpr m)]
        simp [reaches, m, stOf, left] at e
        rw [← e] at h
        exact h
      · rw [if_neg fun z => m ((ex_nat _ _).mp z)]
        simp [reaches, m] at e
        exact hn _ ⟨⟨_, _, rfl⟩, e⟩
def LowOk (C : Bk) (l : List Nat) : Prop := ∀ a x, (a, x) ∈ C.ps → x ∈ l → a ∈ l
def UpOk (C : Bk) (l : List Nat) : Prop := ∀ a x, (x, a) ∈ C.ps → x ∈ l → a ∈ l
def KindOk (C : Bk) (k : Kd) : Prop := (LotOk C.n k.1 ∧ LowOk C k.1) ∧ LotOk C.n k.2 ∧ UpOk C k.2
def S_is_kind_value : FS := fun cs K' => ∃ (C : Bk) (k : Kd), cs = [.im (encB C), .im (encK k)] ∧ C.in ∧ KindOk C k ∧ K' (.im (.bool true))
theorem m_is_kind_value : Main (T_is_kind_value S_is_lower_value S_is_upper_value) N_is_kind_value S_is_kind_value := by
  rintro cs K' ⟨C, k, rfl, h0, ⟨⟨h1, h2⟩, h3, h4⟩, h⟩
  simp [T_is_kind_value, encK, -Bool.exists_bool]
  exact ⟨C, k.1, rfl, h0, h1, h2, true, rfl, by rw [if_pos rfl]; exact ⟨C, k.2, rfl, h0, h3, h4, h⟩⟩
def S_is_deed_value : FS := fun cs K' => ∃ (n : Nat) (d : Deed), cs = [.im (.int n), .im (encDeed d)] ∧ d.2 < n ∧ K' (.im (.bool true))
theorem m_is_deed_value : Main (T_is_deed_value S_is_between) N_is_deed_value S_is_deed_value := by
  rintro cs K' ⟨n, ⟨w, x⟩, rfl, h1, h⟩
  have e : isBtw 0 ((n : Int) - 1) (.int x) = true := by simp at h1; simp [isBtw]; omega
  cases w <;> simp [T_is_deed_value, encDeed, wd, S_is_between, noDict, e, h]
def S_is_script_value : FS := fun cs K' => ∃ (n : Nat) (s : List Deed), cs = [.im (.int n), .im (encS s)] ∧ (∀ d ∈ s, d.2 < n) ∧ K' (.im (.bool true))
theorem m_is_script_value : Main (T_is_script_value S_is_deed_value) N_is_script_value S_is_script_value := by
  rintro cs K' ⟨n, s, rfl, h1, h⟩
  simp [T_is_script_value, encS]
  refine comp_trues encDeed s (fun d hd K1 K0 h => ?_) ⟨_, lstF_trues s, ?_⟩
  · simp
    exact ⟨n, d, rfl, h1 d hd, h⟩
  · simpa using h
def S_need_script : FS := fun cs K' => ∃ (n : Nat) (s : List Deed), cs = [.im (.int n), .im (encS s)] ∧ (∀ d ∈ s, d.2 < n) ∧ K' (.im .none)
theorem m_need_script : Main (T_need_script S_is_script_value) N_need_script S_need_script := by
  rintro cs K' ⟨n, s, rfl, h1, h⟩
  simp [T_need_script, -Bool.exists_bool]
  exact ⟨n, s, rfl, h1, true, rfl, by simpa using h⟩
def S_left_by : FS := fun cs K' => ∃ d : Deed, cs = [.im (encDeed d)] ∧ K' (.im (.str (left d)))
theorem m_left_by : Main T_left_by N_left_by S_left_by := by
  rintro cs K' ⟨⟨w, x⟩, rfl, h⟩
  cases w <;> simp [T_left_by, encDeed, wd, left] at h ⊢ <;> exact h
def S_does_reach : FS := fun cs K' => ∃ (d : Deed) (k : Kd), cs = [.im (encDeed d), .im (encK k)] ∧ K' (.im (.bool (reaches d k)))
theorem m_does_reach : Main T_does_reach N_does_reach S_does_reach := by
  rintro cs K' ⟨⟨w, x⟩, k, rfl, h⟩
  cases w <;> simp [T_does_reach, encDeed, wd, encK, encL, reaches] at h ⊢ <;> rw [← List.any_map, any_nat] <;> exact h
@[simp] theorem lay_encL (l : List Nat) : PyData.canLay0 (encL l) = true := by simp [encL]
@[simp] theorem dep_encL (l : List Nat) : PyData.depth (encL l) = 1 := by simp [encL]
@[simp] theorem lay_encK (k : Kd) : PyData.canLay0 (encK k) = true := by simp [encK]
@[simp] theorem dep_encK (k : Kd) : PyData.depth (encK k) = 2 := by simp [encK]
def names3 : List Str := ["dry", "kept", "wet"]
def WordsOk (ws : List Str) : Prop := ws ≠ [] ∧ ws.Sublist names3
def ltK (k l : Kd) : Prop := ordB (encK k) (encK l) = true ∧ ltB (encK k) (encK l) = true
def S_are_allowed : FS := fun cs K' => ∃ ws : List Str, cs = [.im (.tuple (ws.map .str))] ∧ WordsOk ws ∧ K' (.im (.bool true))
def ltW (a b : Str) : Prop := ordB (.str a) (.str b) = true ∧ ltB (.str a) (.str b) = true
theorem names3_lt : names3.Pairwise ltW := by
  unfold names3 ltW
  refine .cons ?_ (.cons ?_ (.cons ?_ .nil)) <;> intro a m <;> simp at m
  · rcases m with rfl | rfl <;> exact ⟨by decide +kernel, by decide +kernel⟩
  · subst m; exact ⟨by decide +kernel, by decide +kernel⟩
theorem lay_name {w : Str} (h : w ∈ names3) : PyData.strOk w = true := by
  simp [names3] at h
  rcases h with rfl | rfl | rfl <;> simp
theorem m_are_allowed : Main T_are_allowed N_are_allowed S_are_allowed := by
  rintro cs K' ⟨ws, rfl, ⟨h1, h2⟩, h⟩
  have hm : ∀ w ∈ ws, w ∈ names3 := fun w m => h2.subset m
  have hl : ∀ w ∈ ws, PyData.canLay0 (.str w) = true := fun w m => by simpa using lay_name (hm w m)
  simp [T_are_allowed]
  refine ⟨fun w m => lay_name (hm w m), ?_⟩
  rw [if_neg (by cases ws with | nil => exact absurd rfl h1 | cons w r => simp)]
  refine comp_trues .str ws (fun w hw K1 K0 h => by simpa using h) ⟨_, lstF_trues ws, ?_⟩
  rw [if_neg (no_false ws)]
  refine comp_trues .str ws (fun w hw K1 K0 h => ?_) ⟨_, lstF_trues ws, ?_⟩
  · have := hm w hw
    simp [names3] at this
    rcases this with rfl | rfl | rfl <;> simp <;> exact h
  rw [if_neg (no_false ws), zip_next_map]
  refine comp_trues _ _ (fun p hp K1 K0 h => ?_) ⟨_, lstF_trues _, by simpa using h⟩
  have := pair_next (names3_lt.sublist h2) p hp
  have m := List.of_mem_zip hp
  have m1 := lay_name (hm _ m.1)
  have m2 := lay_name (hm _ (List.mem_of_mem_tail m.2))
  simp [m1, m2, this.1, this.2, h]
def AskOk (C : Bk) (a : Ask) : Prop := KindOk C a.1 ∧ WordsOk a.2
def AsksOk (C : Bk) (as : List Ask) : Prop := (∀ a ∈ as, AskOk C a) ∧ as.Pairwise fun a b => ltK a.1 b.1
def S_is_ask : FS := fun cs K' => ∃ (C : Bk) (a : Ask), cs = [.im (encB C), .im (encA a)] ∧ C.in ∧ AskOk C a ∧ K' (.im (.bool true))
theorem m_is_ask : Main (T_is_ask S_is_kind_value S_are_allowed) N_is_ask S_is_ask := by
  rintro cs K' ⟨C, a, rfl, h0, ⟨h1, h2⟩, h⟩
  simp [T_is_ask, encA, -Bool.exists_bool]
  exact ⟨C, a.1, rfl, h0, h1, true, rfl, by simpa using ⟨a.2, rfl, h2, h⟩⟩
def S_are_asks_value : FS := fun cs K' => ∃ (C : Bk) (as : List Ask), cs = [.im (encB C), .im (encAs as)] ∧ C.in ∧ AsksOk C as ∧ K' (.im (.bool true))
theorem m_are_asks_value : Main (T_are_asks_value S_is_ask) N_are_asks_value S_are_asks_value := by
  rintro cs K' ⟨C, as, rfl, h0, ⟨h1, h2⟩, h⟩
  simp [T_are_asks_value, encAs]
  refine comp_trues encA as (fun a ha K1 K0 h => ?_) ⟨_, lstF_trues as, ?_⟩
  · simp
    exact ⟨C, a, rfl, h0, h1 a ha, h⟩
  rw [if_neg (no_false as), zip_next_map]
  refine comp_trues _ _ (fun p hp K1 K0 h => ?_) ⟨_, lstF_trues _, by simpa using h⟩
  have := pair_next h2 p hp
  simp [encA, this.1, this.2, h]
def S_need_asks : FS := fun cs K' => ∃ (C : Bk) (as : List Ask), cs = [.im (encB C), .im (encAs as)] ∧ C.in ∧ AsksOk C as ∧ K' (.im .none)
theorem m_need_asks : Main (T_need_asks S_are_asks_value) N_need_asks S_need_asks := by
  rintro cs K' ⟨C, as, rfl, h0, h1, h⟩
  simp [T_need_asks, -Bool.exists_bool]
  exact ⟨C, as, rfl, h0, h1, true, rfl, by simpa using h⟩
def ok3 (as : List Ask) : Prop := ∀ a ∈ as, a.2.Sublist names3
theorem AsksOk.ok3 {C : Bk} {as : List Ask} (h : AsksOk C as) : ok3 as := fun a m => (h.1 a m).2.2
def meets (s : List Deed) (as : List Ask) : Bool := as.all fun a => decide (standing s a.1 ∈ a.2)
def S_lam : List D → FS := fun ds cs K' => ∃ (s : List Deed) (k : Kd), ds = [encS s] ∧ cs = [.im (encK k)] ∧ K' (.im (.str (standing s k)))
theorem m_lam (ds : List D) (cs : List Cell) (K' : Cell → Prop) (h : S_lam ds cs K') : T_does_meet_lam S_standing_of (cs ++ ds.map .im) K' := by
  obtain ⟨s, k, rfl, rfl, h⟩ := h
  simp [T_does_meet_lam, encK]
  exact ⟨s, k, rfl, h⟩
theorem ok_standing (s : List Deed) (k : Kd) : PyData.strOk (standing s k) = true := by
  unfold standing
  cases s.reverse.find? fun d => reaches d k with
  | none => simp [stOf]
  | some d => simp [stOf, left]; split <;> simp
def S_are_met : FS := fun cs K' => ∃ (s : List Deed) (as : List Ask), cs = [.fn L_does_meet_lam [encS s], .im (encAs as)] ∧ ok3 as ∧ K' (.im (.bool (meets s as)))
theorem m_are_met : Main (T_are_met L_does_meet_lam S_lam) N_are_met S_are_met := by
  rintro cs K' ⟨s, as, rfl, h1, h⟩
  simp [T_are_met, encAs]
  refine compGo_map encA (fun a => .bool (decide (standing s a.1 ∈ a.2))) as (fun a ha K1 K0 h => ?_) ⟨as.map fun a => decide (standing s a.1 ∈ a.2), ?_, ?_⟩
  · have hw : ∀ w ∈ a.2, PyData.strOk w = true := fun w m => lay_name ((h1 a ha).subset m)
    simp [encA]
    refine ⟨s, a.1, rfl, rfl, ?_⟩
    simp [ok_standing]
    rw [← List.any_map, any_str]
    exact ⟨hw, h⟩
  · rw [lstF_ow, List.map_map]; rfl
  · simpa [meets, List.all_map, Function.comp_def] using h
def S_does_meet : FS := fun cs K' => ∃ (s : List Deed) (as : List Ask), cs = [.im (encS s), .im (encAs as)] ∧ ok3 as ∧ K' (.im (.bool (meets s as)))
theorem m_does_meet : Main (T_does_meet S_are_met) N_does_meet S_does_meet := by
  rintro cs K' ⟨s, as, rfl, h1, h⟩
  simp [T_does_meet]
  exact ⟨[encS s], rfl, s, as, rfl, h1, ⟨_, rfl⟩, h⟩
def reachAt (s : List Deed) (k : Kd) : List Nat := (s.zipIdx.filter fun p => reaches p.1 k).map (·.2)
def S_reaching : FS := fun cs K' => ∃ (s : List Deed) (k : Kd), cs = [.im (encS s), .im (encK k)] ∧ K' (.ow ((nats (reachAt s k)).map .im))
theorem m_reaching : Main (T_reaching S_does_reach) N_reaching S_reaching := by
  rintro cs K' ⟨s, k, rfl, h⟩
  simp [T_reaching, encS, enumD_map]
  refine compGo_fm _ (fun p => reaches p.1 k) (fun p => .int (p.2 : Nat)) _ (fun p hp K1 K0 k1 k0 => ?_) ?_
  · simp [-Bool.exists_bool]
    refine ⟨p.1, k, rfl, reaches p.1 k, rfl, ?_⟩
    cases e : reaches p.1 k
    · simpa using k0 e
    · simpa using k1 e
  · simpa [nats, reachAt, Function.comp_def] using h
def agn (s : List Deed) (i a : Nat) : List Deed := s.take a ++ s.getD i (false, 0) :: s.drop a
def S_again : FS := fun cs K' => ∃ (s : List Deed) (i a : Nat), cs = [.im (encS s), .im (.int i), .im (.int a)] ∧ i < s.length ∧ s.length ≤ 100 ∧ K' (.im (encS (agn s i a)))
theorem m_again : Main T_again N_again S_again := by
  rintro cs K' ⟨s, i, a, rfl, h1, h2, h⟩
  have h3 : i < (s.map encDeed).length := by simpa using h1
  simp [T_again, encS, cut_to, cut_from, atI_nat h3]
  refine ⟨le_size (by omega), le_size (by omega), ?_⟩
  have e : s[i] = s.getD i (false, 0) := by simp [List.getD_eq_getElem?_getD, h1]
  rw [e]
  simpa [encS, agn, -List.getD_eq_getElem?_getD] using h
def firstE (s : List Deed) (as : List Ask) : Option Nat := as.findSome? fun a => (reachAt s a.1).find? fun i => !decide (left (s.getD i (false, 0)) ∈ a.2)
def encF (s : List Deed) : Option Nat → D
  | none => .none
  | some i => .tuple [.int (i : Nat), .int (s.length : Nat)]
theorem reachAt_lt {s : List Deed} {k : Kd} {i : Nat} (h : i ∈ reachAt s k) : i < s.length := by
  obtain ⟨p, m, rfl⟩ := List.mem_map.mp h
  have := List.mem_zipIdx (List.mem_filter.mp m).1
  omega
def S_first_echo : FS := fun cs K' => ∃ (s : List Deed) (as : List Ask), cs = [.im (encS s), .im (encAs as)] ∧ ok3 as ∧ K' (.im (encF s (firstE s as)))
theorem m_first_echo : Main (T_first_echo S_reaching S_left_by) N_first_echo S_first_echo := by
  rintro cs K' ⟨s, as, rfl, h1, h⟩
  simp [T_first_echo, encAs]
  refine forGo_enc encA (I := fun rest γ => (∃ c1 c2 c3, γ = [.im (encS s), .im (encAs as), c1, c2, c3]) ∧ (∀ a ∈ rest, a.2.Sublist names3) ∧ (rest.findSome? fun a => (reachAt s a.1).find? fun i => !decide (left (s.getD i (false, 0)) ∈ a.2)) = firstE s as) ?_ ?_ _ _ ⟨⟨_, _, _, rfl⟩, h1, rfl⟩
  · rintro γ ⟨⟨c1, c2, c3, rfl⟩, _, e⟩
    simp at e
    rw [← e] at h
    simpa [encF] using h
  · rintro a rest γ ⟨⟨c1, c2, c3, rfl⟩, hs, e⟩ nx hn
    simp [encA]
    refine ⟨s, a.1, rfl, nats (reachAt s a.1), seqF_o, ?_⟩
    rw [List.findSome?_cons] at e
    have hw : ∀ w ∈ a.2, PyData.strOk w = true := fun w m => lay_name ((hs a List.mem_cons_self).subset m)
    have e' : ((reachAt s a.1).find? fun i => !decide (left (s.getD i (false, 0)) ∈ a.2)).or (rest.findSome? fun a => (reachAt s a.1).find? fun i => !decide (left (s.getD i (false, 0)) ∈ a.2)) = firstE s as := by
      rw [← e]
      cases (reachAt s a.1).find? fun i => !decide (left (s.getD i (false, 0)) ∈ a.2) <;> rfl
    refine forGo_enc encN (I := fun rs γ => (∃ c3, γ = [.im (encS s), .im (encAs as), .im (encK a.1), .im (.tuple (a.2.map .str)), c3]) ∧ (∀ i ∈ rs, i < s.length) ∧ (rs.find? fun i => !decide (left (s.getD i (false, 0)) ∈ a.2)).or (rest.findSome? fun a => (reachAt s a.1).find? fun i => !decide (left (s.getD i (false, 0)) ∈ a.2)) = firstE s as) ?_ ?_ (reachAt s a.1) _ ⟨⟨_, rfl⟩, fun i => reachAt_lt, e'⟩
    · rintro γ ⟨⟨c3, rfl⟩, _, e⟩
      exact hn _ ⟨⟨_, _, _, rfl⟩, fun b m => hs b (List.mem_cons_of_mem _ m), e⟩
    · rintro i rs γ ⟨⟨c3, rfl⟩, hi, e⟩ nx hn
      have hi' := hi i List.mem_cons_self
      have h3 : i < (s.map encDeed).length := by simpa using hi'
      have e4 : s[i] = s.getD i (false, 0) := by simp [List.getD_eq_getElem?_getD, hi']
      have hl : PyData.strOk (left (s.getD i (false, 0))) = true := by unfold left; split <;> simp
      rw [List.find?_cons] at e
      simp [encN, encS, atI_nat h3, -List.getD_eq_getElem?_getD]
      rw [e4]
      refine ⟨s.getD i (false, 0), rfl, ?_⟩
      simp [-List.getD_eq_getElem?_getD]
      refine ⟨hl, hw, ?_⟩
      by_cases m : left (s.getD i (false, 0)) ∈ a.2
      · refine .inl ⟨⟨_, ⟨_, m, rfl⟩, by simp⟩, hn _ ⟨⟨_, rfl⟩, fun j mj => hi j (List.mem_cons_of_mem _ mj), ?_⟩⟩
        simpa [m, -List.getD_eq_getElem?_getD] using e
      · refine .inr ⟨fun b mb eb => m (eb ▸ mb), ?_⟩
        simp [m, -List.getD_eq_getElem?_getD] at e
        rw [← e] at h
        exact h
theorem Sound.in {b C : Bk} (h : Sound b C) (ok : b.ok) : C.in := ⟨by rw [h.1]; exact ok.2.1, fun p m => by rw [h.1]; exact ⟨(h.2 p m).1, (h.2 p m).2.1⟩⟩
/-- right arguments -/
def AllOk (b : Bk) (s : List Deed) (as : List Ask) : Prop := b.ok ∧ (∀ d ∈ s, d.2 < b.n) ∧ ok3 as ∧ ∀ C, Sound b C → AsksOk C as
def S_meets_asks : FS := fun cs K' => ∃ (b : Bk) (s : List Deed) (as : List Ask), cs = [.im (encB b), .im (encS s), .im (encAs as)] ∧ AllOk b s as ∧ K' (.im (.bool (meets s as)))
theorem m_meets_asks : Main (T_meets_asks S_need_book S_need_script S_need_asks S_closing_of S_does_meet) N_meets_asks S_meets_asks := by
  rintro cs K' ⟨b, s, as, rfl, ⟨h1, h2, h3, h4⟩, h⟩
  simp [T_meets_asks]
  refine ⟨b, rfl, h1, ?_⟩
  simp [encB]
  refine ⟨b.n, s, rfl, h2, b, rfl, h1.in, fun C hC => ⟨C, as, rfl, hC.in h1, h4 C hC, s, as, rfl, h3, h⟩⟩
def S_need_question : FS := fun cs K' => ∃ (b : Bk) (s : List Deed) (as : List Ask), cs = [.im (encB b), .im (encS s), .im (encAs as)] ∧ AllOk b s as ∧ meets s as = true ∧ K' (.im .none)
theorem m_need_question : Main (T_need_question S_need_book S_need_script S_need_asks S_closing_of S_does_meet) N_need_question S_need_question := by
  rintro cs K' ⟨b, s, as, rfl, ⟨h1, h2, h3, h4⟩, hm, h⟩
  simp [T_need_question, -Bool.exists_bool]
  refine ⟨b, rfl, h1, ?_⟩
  simp [encB, -Bool.exists_bool]
  refine ⟨b.n, s, rfl, h2, b, rfl, h1.in, fun C hC => ⟨C, as, rfl, hC.in h1, h4 C hC, s, as, rfl, h3, true, by rw [hm], by simpa using h⟩⟩
def encJ (s : List Deed) : Option Nat → D
  | none => .tuple [.str "firm"]
  | some i => .tuple [.str "echo", .int (i : Nat), .int (s.length : Nat)]
def S_judge_echo : FS := fun cs K' => ∃ (b : Bk) (s : List Deed) (as : List Ask), cs = [.im (encB b), .im (encS s), .im (encAs as)] ∧ AllOk b s as ∧ meets s as = true ∧ K' (.im (encJ s (firstE s as)))
theorem m_judge_echo : Main (T_judge_echo S_need_question S_first_echo) N_judge_echo S_judge_echo := by
  rintro cs K' ⟨b, s, as, rfl, h1, hm, h⟩
  simp [T_judge_echo]
  refine ⟨b, s, as, rfl, h1, hm, s, as, rfl, h1.2.2.1, ?_⟩
  cases e : firstE s as with
  | none => rw [e] at h; simp [encF]; simpa [encJ] using h
  | some i => rw [e] at h; simp [encF]; simpa [encJ] using h
def echoes (s : List Deed) (as : List Ask) : D → D → Bool
  | .int i, .int a => decide (0 ≤ i) && decide (i < s.length) && decide (i + 1 ≤ a) && decide (a ≤ s.length) && !meets (agn s i.toNat a.toNat) as
  | _, _ => false
def S_is_echo : FS := fun cs K' => ∃ (s : List Deed) (as : List Ask) (d e : D), cs = [.im (encS s), .im (encAs as), .im d, .im e] ∧ ok3 as ∧ s.length ≤ 100 ∧ noDict d = true ∧ noDict e = true ∧ K' (.im (.bool (echoes s as d e)))
theorem m_is_echo : Main (T_is_echo S_is_between S_does_meet S_again) N_is_echo S_is_echo := by
  rintro cs K' ⟨s, as, d, e, rfl, h1, h2, h3, h4, h⟩
  simp [T_is_echo, S_is_between, h3, h4, encS, -Bool.exists_bool]
  cases e1 : isBtw 0 ((s.length : Int) - 1) d with
  | false =>
    have : echoes s as d e = false := by
      cases d <;> simp [echoes, isBtw] at e1 ⊢
      cases e <;> simp [echoes]
      omega
    rw [this] at h
    simpa using h
  | true =>
    cases d <;> simp [isBtw] at e1
    rename_i i
    simp [-Bool.exists_bool]
    cases e2 : isBtw (i + 1) s.length e with
    | false =>
      have : echoes s as (.int i) e = false := by
        cases e <;> simp [echoes, isBtw] at e2 ⊢
        omega
      rw [this] at h
      simpa using h
    | true =>
      cases e <;> simp [isBtw] at e2
      rename_i a
      obtain ⟨i, rfl⟩ := Int.eq_ofNat_of_zero_le e1.1
      obtain ⟨a, rfl⟩ := Int.eq_ofNat_of_zero_le (show 0 ≤ a by omega)
      rw [if_pos rfl]
      refine ⟨s, i, a, rfl, by omega, h2, agn s i a, as, rfl, h1, meets (agn s i a) as, rfl, ?_⟩
      have : echoes s as (.int (i : Nat)) (.int (a : Nat)) = !meets (agn s i a) as := by
        simp [echoes]
        omega
      rw [this] at h
      exact h
/-- what echo_holds answers -/
def holdsE (s : List Deed) (as : List Ask) : D → Bool
  | .tuple [.str w] => decide (w = "firm") && (firstE s as).isNone
  | .tuple [.str w, d, e] => decide (w = "echo") && echoes s as d e
  | _ => false
def fit (d : D) : Bool := okD d && PyData.canLay0 d && decide (PyData.depth d ≤ 64)
def S_echo_holds : FS := fun cs K' => ∃ (b : Bk) (s : List Deed) (as : List Ask) (d : D), cs = [.im (encB b), .im (encS s), .im (encAs as), .im d] ∧ AllOk b s as ∧ meets s as = true ∧ s.length ≤ 100 ∧ fit d = true ∧ K' (.im (.bool (holdsE s as d)))
theorem m_echo_holds : Main (T_echo_holds S_need_question S_first_echo S_is_echo) N_echo_holds S_echo_holds := by
  rintro cs K' ⟨b, s, as, d, rfl, h1, h2, h3, h4, h⟩
  simp [T_echo_holds, -Bool.exists_bool]
  refine ⟨b, s, as, rfl, h1, h2, ?_⟩
  cases d with
  | tuple ds =>
    cases ds with
    | nil => simpa [holdsE] using h
    | cons x r =>
      simp [fit, okD, okDs] at h4
      cases x with
      | str w =>
        obtain ⟨a1, a2, a3, a4, a5⟩ := h4
        have hw : PyData.strOk w = true := by simpa [okD] using a1
        simp [-Bool.exists_bool]
        refine ⟨hw, a4, by omega, hw, ?_⟩
        by_cases e : w = Str.ofString "firm"
        · subst e
          rw [if_pos rfl]
          rcases r with _ | ⟨y, _ | ⟨z, _ | ⟨u, r⟩⟩⟩
          · simp
            refine ⟨s, as, rfl, h1.2.2.1, ?_⟩
            cases e : firstE s as <;> simp [encF, holdsE, e] at h ⊢ <;> exact h
          all_goals
            simp [holdsE] at h
            rw [if_neg (by simp; try omega)]
            exact h
        · rw [if_neg e]
          refine ⟨hw, ?_⟩
          by_cases e2 : w = Str.ofString "echo"
          · subst e2
            rw [if_pos rfl]
            rcases r with _ | ⟨y, _ | ⟨z, _ | ⟨u, r⟩⟩⟩
            · simp [holdsE] at h; rw [if_neg (by simp)]; exact h
            · simp [holdsE] at h; rw [if_neg (by simp)]; exact h
            · simp [holdsE] at h
              rw [if_pos (by simp)]
              simp [okDs] at a2
              simp
              refine ⟨s, as, y, z, rfl, h1.2.2.1, h3, ?_, ?_, h⟩
              · cases y <;> simp [noDict, okD] at a2 ⊢
              · cases z <;> simp [noDict, okD] at a2 ⊢
            · simp [holdsE] at h; rw [if_neg (by simp; omega)]; exact h
          · rw [if_neg e2]
            rcases r with _ | ⟨y, _ | ⟨z, _ | ⟨u, r⟩⟩⟩ <;> simp [holdsE, e, e2] at h <;> exact h
      | _ => simp_all [holdsE, okD, okDs]
  | dict kvs => simp [fit, okD] at h4
  | _ => simpa [holdsE] using h
end L89
set_option maxHeartbeats 1000000
namespace L89
open PySem PySem.Spec PyProof.Rows L2 DL
theorem atI_int {α : Type} {xs : List α} {r : Int} (h0 : 0 ≤ r) (h : r < xs.length) : ∃ x ∈ xs, atI xs r = some x := by
  obtain ⟨k, rfl⟩ := Int.eq_ofNat_of_zero_le h0
  have hk : k < xs.length := by omega
  exact ⟨xs[k], List.getElem_mem hk, atI_nat hk⟩
theorem log_ok {k : Nat} (h : k ≤ 2 ^ 60) : (k : Int).natAbs.log2 < 9000 := by
  rw [Int.natAbs_natCast]
  by_cases e : k = 0
  · subst e; decide
  · exact Nat.lt_of_lt_of_le ((Nat.log2_lt e).mpr (Nat.lt_of_le_of_lt h (by decide : 2 ^ 60 < 2 ^ 61))) (by decide)
theorem draw_nat {k : Nat} {K' : Cell → Prop} (h0 : 0 < k) (h : k ≤ 2 ^ 60) (hk : ∀ r : Nat, r < k → K' (.im (.int (r : Nat)))) : S_draw [.deck, .im (.int (k : Nat))] K' :=
  ⟨k, rfl, by omega, log_ok h, fun r r0 r1 => by obtain ⟨r, rfl⟩ := Int.eq_ofNat_of_zero_le r0; exact hk r (by omega)⟩
def S_pick : FS := fun cs K' => ∃ ds : List D, (cs = [.deck, .ow (ds.map .im)] ∨ cs = [.deck, .im (.list ds)]) ∧ 0 < ds.length ∧ ds.length ≤ 2 ^ 60 ∧ ∀ d ∈ ds, K' (.im d)
theorem m_pick : Main (T__law_pick S_draw) N__law_pick S_pick := by
  rintro cs K' ⟨ds, rfl | rfl, h1, h2, h⟩
  · simp [T__law_pick]
    refine draw_nat h1 h2 fun r hr => ?_
    simp [atI_nat hr, atI_nat (xs := ds.map Cell.im) (by simpa using hr)]
    exact h _ (List.getElem_mem _)
  · simp [T__law_pick]
    refine draw_nat h1 h2 fun r hr => ?_
    simp [atI_nat hr, atI_nat (xs := ds.map Cell.im) (by simpa using hr)]
    exact h _ (List.getElem_mem _)
/-- any of the data of a list -/
def LstC (c : Cell) (ds : List D) : Prop := c = .ow (ds.map .im) ∨ c = .im (.list ds)
def S_deeds : FS := fun cs K' => ∃ n : Nat, cs = [.im (.int n)] ∧ n ≤ 5 ∧ ∀ s : List Deed, (1 ≤ n → s ≠ []) → (∀ d ∈ s, d.2 < n) → s.length ≤ 10 → K' (.ow ((s.map encDeed).map .im))
theorem m_deeds : Main T__law_deeds N__law_deeds S_deeds := by
  rintro cs K' ⟨n, rfl, h1, h⟩
  simp [T__law_deeds]
  refine ⟨by omega, compGo_map encN (fun i => encDeed (false, i)) (List.range n) (fun i hi K1 K0 hk => ?_) ?_⟩
  · simpa [encN, encDeed, wd] using hk
  · refine ⟨by omega, compGo_map encN (fun i => encDeed (true, i)) (List.range n) (fun i hi K1 K0 hk => ?_) ?_⟩
    · simpa [encN, encDeed, wd] using hk
    · refine .inr (.inr (.inl ⟨_, rfl, _, rfl, le_size (by simp; omega), ?_⟩))
      have := h ((List.range n).map (fun i => (false, i)) ++ (List.range n).map fun i => (true, i)) (fun h0 z => by
        have := congrArg List.length z
        simp at this
        omega) (fun d m => by
        rcases List.mem_append.mp m with m | m <;> (obtain ⟨i, hi, rfl⟩ := List.mem_map.mp m; simpa using hi)) (by simp; omega)
      simpa [Function.comp_def] using this
end L89
set_option maxHeartbeats 1000000
namespace L89
open PySem PySem.Spec PyProof.Rows L2 DL
open PySem.W (alike alikeAll keyToks keyToksAll AllAlike Sortable dataLt dataLe)
def S_isint : FS := fun cs K' => ∃ (d : D) (l m : Int), cs = [.im d, .im (.int l), .im (.int m)] ∧ noDict d = true ∧ K' (.im (.bool (isBtw l m d)))
theorem m_isint : Main T__law_is_integer N__law_is_integer S_isint := by
  rintro cs K' ⟨d, l, m, rfl, hd, h⟩
  cases d <;> simp_all [T__law_is_integer, isBtw, noDict]
  rename_i i
  by_cases h1 : l ≤ i <;> simp_all <;> omega
theorem m_lagain : Main T__law_again N__law_again S_again := m_again
def atom : D → Bool
  | .int _ => true
  | .str x => PyData.strOk x
  | _ => false
def S_sameA : FS := fun cs K' => (∃ d : D, cs = [.im d, .im d] ∧ atom d = true ∧ K' (.im (.bool true))) ∨ ∃ a b : Bool, cs = [.im (.bool a), .im (.bool b)] ∧ K' (.im (.bool (a == b)))
theorem m_sameA {S : FS} : Main (T__law_same S) N__law_same S_sameA := by
  rintro cs K' (⟨d, rfl, hd, h⟩ | ⟨a, b, rfl, h⟩)
  · cases d <;> simp_all [T__law_same, atom]
  · cases a <;> cases b <;> simp [T__law_same] <;> simpa using h
theorem zip_self' {α : Type} : ∀ l : List α, l.zip l = l.map fun x => (x, x)
  | [] => rfl
  | x :: l => by rw [List.zip_cons_cons, zip_self' l, List.map_cons]
def S_same : FS := fun cs K' => S_sameA cs K' ∨ ∃ ds : List D, cs = [.im (.tuple ds), .im (.tuple ds)] ∧ (∀ d ∈ ds, atom d = true) ∧ K' (.im (.bool true))
theorem m_same : Main (T__law_same S_sameA) N__law_same S_same := by
  rintro cs K' (h | ⟨ds, rfl, hd, h⟩)
  · exact m_sameA cs K' h
  · simp [T__law_same]
    have e : zipD ds ds = (ds.zip ds).map fun p => .tuple [p.1, p.2] := rfl
    rw [e]
    refine compGo_fm _ (fun _ => false) (fun _ => .int 1) _ (fun p hp K1 K0 k1 k0 => ?_) ?_
    · have e2 : p.1 = p.2 ∧ p.2 ∈ ds := by
        have := List.of_mem_zip hp
        refine ⟨?_, this.2⟩
        rw [zip_self'] at hp
        obtain ⟨x, _, rfl⟩ := List.mem_map.mp hp
        rfl
      simp [S_sameA]
      exact .inl ⟨e2.1.symm, by rw [e2.1]; exact hd _ e2.2, k0 rfl⟩
    · rw [show List.filter (fun x => false) (ds.zip ds) = [] by simp]
      simpa using h
def reachM (ks : List Kd) (d : Deed) : List Nat := (ks.zipIdx.filter fun p => reaches d p.1).map (·.2)
theorem reachM_mem {ks : List Kd} {d : Deed} {k : Nat} : k ∈ reachM ks d ↔ ∃ h : k < ks.length, reaches d ks[k] = true := by
  unfold reachM
  constructor
  · intro m
    obtain ⟨p, m0, rfl⟩ := List.mem_map.mp m
    obtain ⟨m1, m2⟩ := List.mem_filter.mp m0
    have := List.mem_zipIdx m1
    refine ⟨by omega, ?_⟩
    have e : p.1 = ks[p.2] := by simpa using this.2.2
    rw [← e]; exact m2
  · rintro ⟨h, e⟩
    refine List.mem_map.mpr ⟨(ks[k], k), List.mem_filter.mpr ⟨?_, e⟩, rfl⟩
    rw [List.mem_zipIdx_iff_getElem?]
    simp [h]
theorem zipIdx_nodup {α : Type} (l : List α) : (l.zipIdx.map (·.2)).Nodup := by
  rw [List.zipIdx_map_snd]
  exact List.nodup_range'
theorem reachM_nodup (ks : List Kd) (d : Deed) : (reachM ks d).Nodup := by
  unfold reachM
  exact List.Sublist.nodup (List.Sublist.map _ (List.filter_sublist)) (zipIdx_nodup ks)
def maskD (ks : List Kd) (d : Deed) : Nat := sumPow (reachM ks d)
theorem maskD_bit {ks : List Kd} {d : Deed} {k : Nat} : (maskD ks d).testBit k = true ↔ ∃ h : k < ks.length, reaches d ks[k] = true := by
  unfold maskD
  rw [sumPow_bit (reachM_nodup ks d), reachM_mem]
structure WC where
  b : Bk
  ks : List Kd
  rk : List (List Key)
  rc : List Cell
  x1 : D
  x2 : D
  x3 : D
def wkeys : List Key := [.inr "book", .inr "n", .inr "kinds", .inr "reach", .inr "downs", .inr "ups", .inr "least"]
def wcells (w : WC) : List Cell := [.im (encB w.b), .im (.int w.b.n), .im (.list (w.ks.map encK)), .ft w.rk w.rc, .im w.x1, .im w.x2, .im w.x3]
def worldF (w : WC) : Cell := .fk wkeys (wcells w)
def worldO (w : WC) : Cell := .dk wkeys (wcells w)
@[simp] theorem fl_world (w : WC) : (worldF w).flat = true := rfl
@[simp] theorem fl_worldO (w : WC) : (worldO w).flat = false := rfl
theorem frz_world (w : WC) : frz (worldO w) = worldF w := by
  simp [worldO, worldF, wcells, frzs]
def keyDd (d : Deed) : List Key := [.inr (wd d.1), .inl d.2]
structure WC.ok (w : WC) : Prop where
  b : w.b.ok
  ne : w.ks ≠ []
  len : w.ks.length ≤ 1024
  kd : ∀ k ∈ w.ks, ∀ C, Sound w.b C → KindOk C k
  lt : w.ks.Pairwise ltK
  rk : ∀ d : Deed, d.2 < w.b.n → getK w.rk w.rc (keyDd d) = some (.im (.int (maskD w.ks d : Nat)))
@[simp] theorem get_book (w : WC) : getK wkeys (wcells w) (.inr (Str.ofString "book")) = some (.im (encB w.b)) := by unfold wkeys wcells; kernel_rfl
@[simp] theorem get_n (w : WC) : getK wkeys (wcells w) (.inr (Str.ofString "n")) = some (.im (.int w.b.n)) := by unfold wkeys wcells; kernel_rfl
@[simp] theorem get_kinds (w : WC) : getK wkeys (wcells w) (.inr (Str.ofString "kinds")) = some (.im (.list (w.ks.map encK))) := by unfold wkeys wcells; kernel_rfl
@[simp] theorem get_reach (w : WC) : getK wkeys (wcells w) (.inr (Str.ofString "reach")) = some (.ft w.rk w.rc) := by unfold wkeys wcells; kernel_rfl
def encSt (s : Nat × Nat) : D := .tuple [.int (s.1 : Nat), .int (s.2 : Nat)]
def beh (ks : List Kd) (s : Nat × Nat) (d : Deed) : Nat × Nat :=
  if d.1 = true then (s.1 ||| maskD ks d, s.2 ^^^ (s.2 &&& maskD ks d)) else (s.1 ^^^ (s.1 &&& maskD ks d), s.2 ||| maskD ks d)
theorem keyDs_deed (d : Deed) : keyDs [.str (wd d.1), .int (d.2 : Nat)] = some (keyDd d) := rfl
def S_behind : FS := fun cs K' => ∃ (w : WC) (s : Nat × Nat) (d : Deed), cs = [worldF w, .im (encSt s), .im (encDeed d)] ∧ w.ok ∧ d.2 < w.b.n ∧ K' (.im (encSt (beh w.ks s d)))
theorem m_behind : Main T__law_behind N__law_behind S_behind := by
  rintro cs K' ⟨w, s, ⟨p, x⟩, rfl, hw, hd, h⟩
  have e := hw.rk (p, x) hd
  simp [T__law_behind, worldF, encDeed, encSt, keyDs_deed (p, x), e]
  cases p
  · simp [wd, bor_nat, sub_nat]
    simpa [beh, encSt] using h
  · simp [wd, bor_nat, sub_nat]
    simpa [beh, encSt] using h
def stateOf (ks : List Kd) (s : List Deed) : Nat × Nat := s.foldl (beh ks) (0, 0)
def S_state : FS := fun cs K' => ∃ (w : WC) (s : List Deed), cs = [worldF w, .im (encS s)] ∧ w.ok ∧ (∀ d ∈ s, d.2 < w.b.n) ∧ K' (.im (encSt (stateOf w.ks s)))
theorem m_state : Main (T__law_state S_behind) N__law_state S_state := by
  rintro cs K' ⟨w, s, rfl, hw, hd, h⟩
  simp [T__law_state, encS]
  refine forGo_fold encDeed (beh w.ks) (fun st γ => ∃ c, γ = [worldF w, .im (encS s), .im (encSt st), c]) (0, 0) s _ ⟨_, rfl⟩ ?_ ?_
  · rintro d hm st γ ⟨c, rfl⟩ nx hn
    simp
    exact ⟨w, st, d, rfl, hw, hd d hm, hn _ ⟨_, rfl⟩⟩
  · rintro γ ⟨c, rfl⟩
    simpa [stateOf] using h
theorem standing_nil (k : Kd) : standing [] k = "kept" := rfl
theorem standing_snoc (s : List Deed) (d : Deed) (k : Kd) : standing (s ++ [d]) k = if reaches d k = true then left d else standing s k := by
  unfold standing
  rw [List.reverse_append, List.reverse_singleton, List.singleton_append, List.find?_cons]
  cases reaches d k <;> rfl
structure StOk (ks : List Kd) (st : Nat × Nat) (s : List Deed) : Prop where
  wet : ∀ (k : Nat) (h : k < ks.length), st.1.testBit k = true ↔ standing s ks[k] = "wet"
  dry : ∀ (k : Nat) (h : k < ks.length), st.2.testBit k = true ↔ standing s ks[k] = "dry"
theorem beh_ok {ks : List Kd} {st : Nat × Nat} {s : List Deed} (h : StOk ks st s) (d : Deed) : StOk ks (beh ks st d) (s ++ [d]) := by
  obtain ⟨p, x⟩ := d
  refine ⟨fun k hk => ?_, fun k hk => ?_⟩
  all_goals
    rw [standing_snoc]
    have hm := @maskD_bit ks (p, x) k
    have h1 := h.wet k hk
    have h2 := h.dry k hk
    by_cases e : reaches (p, x) ks[k] = true
    · have hm' := hm.mpr ⟨hk, e⟩
      cases p <;> simp [beh, hm', left, e, Nat.testBit_xor, Nat.testBit_and, Nat.testBit_or]
    · have hm' : (maskD ks (p, x)).testBit k = false := by
        cases q : (maskD ks (p, x)).testBit k with
        | false => rfl
        | true => obtain ⟨_, z⟩ := hm.mp q; exact absurd z e
      cases p <;> simp [beh, hm', e, Nat.testBit_xor, Nat.testBit_and, Nat.testBit_or, h1, h2]
theorem stateOf_snoc (ks : List Kd) (s : List Deed) (d : Deed) : stateOf ks (s ++ [d]) = beh ks (stateOf ks s) d := by
  unfold stateOf; rw [List.foldl_append]; rfl
theorem stateOf_app (ks : List Kd) (s t : List Deed) : stateOf ks (s ++ t) = t.foldl (beh ks) (stateOf ks s) := by
  unfold stateOf; rw [List.foldl_append]
theorem state_ok (ks : List Kd) (s : List Deed) : StOk ks (stateOf ks s) s := by
  have key : ∀ (t s : List Deed) (st : Nat × Nat), StOk ks st s → StOk ks (t.foldl (beh ks) st) (s ++ t) := by
    intro t
    induction t with
    | nil => intro s st h; simpa using h
    | cons d t ih =>
      intro s st h
      have := ih (s ++ [d]) (beh ks st d) (beh_ok h d)
      simpa using this
  have := key s [] (0, 0) ⟨fun k hk => by simp [standing_nil], fun k hk => by simp [standing_nil]⟩
  simpa [stateOf] using this
end L89
set_option maxHeartbeats 1000000
namespace L89
open PySem PySem.Spec PyProof.Rows L2 DL
open PySem.W (alike alikeAll keyToks keyToksAll AllAlike Sortable dataLt dataLe)
structure AsksIn (ks : List Kd) (as : List Ask) : Prop where
  sub : (as.map (·.1)).Sublist ks
  wo : ∀ a ∈ as, WordsOk a.2
theorem AsksIn.ok {w : WC} (hw : w.ok) {as : List Ask} (h : AsksIn w.ks as) {C : Bk} (hC : Sound w.b C) : AsksOk C as := by
  refine ⟨fun a m => ⟨hw.kd a.1 (h.sub.subset (List.mem_map_of_mem m)) C hC, h.wo a m⟩, ?_⟩
  have := hw.lt.sublist h.sub
  exact List.pairwise_map.mp this
theorem AsksIn.all {w : WC} (hw : w.ok) {as : List Ask} {s : List Deed} (h : AsksIn w.ks as) (hs : ∀ d ∈ s, d.2 < w.b.n) : AllOk w.b s as :=
  ⟨hw.b, hs, fun a m => (h.wo a m).2, fun _ hC => h.ok hw hC⟩
theorem ltK_ne {k l : Kd} (h : ltK k l) : k ≠ l := by
  rintro rfl
  have h2 := h.2
  have e : PyData.eqvAll [encL k.1, encL k.2] [encL k.1, encL k.2] = true := by simp [encL, eqvAll_nat]
  simp [encK, ltB, ltBs, encL, eqvAll_nat] at h2
theorem WC.ok.nodup {w : WC} (hw : w.ok) : w.ks.Nodup := hw.lt.imp fun h => ltK_ne h
theorem eqv_encK (k l : Kd) : PyData.eqv (encK k) (encK l) = decide (k = l) := by
  obtain ⟨a, b⟩ := k
  obtain ⟨c, d⟩ := l
  simp [encK, encL, eqvAll_nat, Bool.decide_and]
def badL (ks : List Kd) (as : List Ask) (x : Str) : List Nat := (as.filter fun a => !decide (x ∈ a.2)).map fun a => ks.idxOf a.1
def badM (ks : List Kd) (as : List Ask) (x : Str) : Nat := sumPow (badL ks as x)
theorem badL_nodup {ks : List Kd} {as : List Ask} (nd : ks.Nodup) (h : AsksIn ks as) (x : Str) : (badL ks as x).Nodup := by
  unfold badL
  have h1 : (as.map (·.1)).Nodup := h.sub.nodup nd
  have h2 : ((as.filter fun a => !decide (x ∈ a.2)).map (·.1)).Nodup := (List.Sublist.map _ List.filter_sublist).nodup h1
  have h3 : ∀ a ∈ (as.filter fun a => !decide (x ∈ a.2)).map (·.1), a ∈ ks := fun a m => h.sub.subset ((List.Sublist.map _ List.filter_sublist).subset m)
  rw [show ((as.filter fun a => !decide (x ∈ a.2)).map fun a => ks.idxOf a.1) = ((as.filter fun a => !decide (x ∈ a.2)).map (·.1)).map fun k => ks.idxOf k by rw [List.map_map]; rfl]
  refine List.pairwise_map.mpr ?_
  refine List.Pairwise.imp_of_mem ?_ h2
  intro a b ma mb hne e
  apply hne
  have := List.getElem_idxOf (List.idxOf_lt_length_iff.mpr (h3 a ma))
  rw [← this, ← List.getElem_idxOf (List.idxOf_lt_length_iff.mpr (h3 b mb))]
  simp [e]
theorem badM_bit {ks : List Kd} {as : List Ask} (nd : ks.Nodup) (h : AsksIn ks as) (x : Str) (k : Nat) : (badM ks as x).testBit k = true ↔ ∃ a ∈ as, x ∉ a.2 ∧ ks.idxOf a.1 = k := by
  unfold badM
  rw [sumPow_bit (badL_nodup nd h x)]
  unfold badL
  simp [and_assoc]
def LstC3 (c : Cell) (x y z : Nat) : Prop := LstC c [.int (x : Nat), .int (y : Nat), .int (z : Nat)]
def lmeets (x y z : Nat) (st : Nat × Nat) : Bool := decide (st.1 &&& x = 0) && decide (st.2 &&& y = 0) && decide ((st.1 ||| st.2) &&& z = z)
theorem lmeets_eq {w : WC} (hw : w.ok) {as : List Ask} (h : AsksIn w.ks as) {st : Nat × Nat} {s : List Deed} (hs : StOk w.ks st s) : lmeets (badM w.ks as "wet") (badM w.ks as "dry") (badM w.ks as "kept") st = meets s as := by
  have nd := hw.nodup
  have ix : ∀ a ∈ as, ∃ hk : w.ks.idxOf a.1 < w.ks.length, w.ks[w.ks.idxOf a.1] = a.1 := fun a m => by
    have hk := List.idxOf_lt_length_iff.mpr (h.sub.subset (List.mem_map_of_mem m))
    exact ⟨hk, List.getElem_idxOf hk⟩
  have z0 : ∀ x y : Nat, x &&& y = 0 ↔ ∀ k, ¬ (x.testBit k = true ∧ y.testBit k = true) := fun x y => by
    constructor
    · intro e k hk
      have : (x &&& y).testBit k = true := by rw [Nat.testBit_and, hk.1, hk.2]; rfl
      rw [e, Nat.zero_testBit] at this; cases this
    · intro hk
      apply Nat.eq_of_testBit_eq
      intro k
      rw [Nat.testBit_and, Nat.zero_testBit]
      have := hk k
      cases q : x.testBit k <;> cases r : y.testBit k <;> simp_all
  have z1 : ∀ x y : Nat, x &&& y = y ↔ ∀ k, y.testBit k = true → x.testBit k = true := fun x y => by
    constructor
    · intro e k hk
      rw [← e, Nat.testBit_and, Bool.and_eq_true] at hk
      exact hk.1
    · intro hk
      apply Nat.eq_of_testBit_eq
      intro k
      rw [Nat.testBit_and]
      have := hk k
      cases q : x.testBit k <;> cases r : y.testBit k <;> simp_all
  rw [Bool.eq_iff_iff]
  unfold lmeets meets
  simp only [Bool.and_eq_true, decide_eq_true_iff, List.all_eq_true]
  rw [z0, z0, z1]
  simp only [badM_bit nd h, Nat.testBit_or, Bool.or_eq_true]
  constructor
  · rintro ⟨⟨h1, h2⟩, h3⟩ a m
    obtain ⟨hk, e⟩ := ix a m
    have hw1 := hs.wet _ hk
    have hd1 := hs.dry _ hk
    rw [e] at hw1 hd1
    have c : standing s a.1 = "wet" ∨ standing s a.1 = "dry" ∨ standing s a.1 = "kept" := by
      unfold standing
      cases s.reverse.find? fun d => reaches d a.1 with
      | none => exact .inr (.inr rfl)
      | some d => unfold stOf left; simp only []; split <;> simp
    rcases c with c | c | c
    · rw [c]
      exact Classical.byContradiction fun z => h1 _ ⟨hw1.mpr c, a, m, z, rfl⟩
    · rw [c]
      exact Classical.byContradiction fun z => h2 _ ⟨hd1.mpr c, a, m, z, rfl⟩
    · rw [c]
      refine Classical.byContradiction fun z => ?_
      rcases h3 _ ⟨a, m, z, rfl⟩ with q | q
      · rw [hw1.mp q] at c; revert c; decide +kernel
      · rw [hd1.mp q] at c; revert c; decide +kernel
  · intro hm
    refine ⟨⟨?_, ?_⟩, ?_⟩
    · rintro k ⟨q, a, m, z, rfl⟩
      obtain ⟨hk, e⟩ := ix a m
      have := (hs.wet _ hk).mp q
      rw [e] at this
      exact z (this ▸ hm a m)
    · rintro k ⟨q, a, m, z, rfl⟩
      obtain ⟨hk, e⟩ := ix a m
      have := (hs.dry _ hk).mp q
      rw [e] at this
      exact z (this ▸ hm a m)
    · rintro k ⟨a, m, z, rfl⟩
      obtain ⟨hk, e⟩ := ix a m
      have hw1 := hs.wet _ hk
      have hd1 := hs.dry _ hk
      rw [e] at hw1 hd1
      have c := hm a m
      unfold standing at c hw1 hd1
      cases q : s.reverse.find? fun d => reaches d a.1 with
      | none => rw [q] at c; exact absurd c z
      | some d =>
        rw [q] at hw1 hd1
        unfold stOf left at hw1 hd1
        cases p : d.1
        · right; apply hd1.mpr; simp [p]
        · left; apply hw1.mpr; simp [p]
def S_bad : FS := fun cs K' => ∃ (w : WC) (as : List Ask), cs = [worldF w, .im (encAs as)] ∧ w.ok ∧ AsksIn w.ks as ∧ K' (.ow ([.int (badM w.ks as "wet" : Nat), .int (badM w.ks as "dry" : Nat), .int (badM w.ks as "kept" : Nat)].map .im))
@[simp] theorem shaped_encK (k : Kd) : SeqAt.shaped (encK k) = true := by simp
theorem shaped_kinds (ks : List Kd) : SeqAt.shaped (.list (ks.map encK)) = true := by
  have h := depAll_map (f := encK) (l := ks) (m := 2) fun k _ => by simp
  simp [layAll_map (f := encK) (l := ks) fun k _ => by simp]
  omega
theorem bad_word {w : WC} (hw : w.ok) {as : List Ask} (ha : AsksIn w.ks as) (x : Str) (hx : PyData.strOk x = true) (c1 c2 : Cell)
    {K : List Int → Prop} (hk : ∀ ns : List Int, ns.sum = (badM w.ks as x : Nat) → K ns) :
    compGo (gTp 2 (gC (gNm 4) (gC (gNm 5) gN0))) (tBl (x2 (cIn true) (xVarR 3) (xVarR 5))) (x2 (cI CPow fun i j => i * 2 ^ j.toNat) (xC (.int 1)) (xIndex (xIx (xVarR 0) (xC (.str ("kinds" : Str)))) (xVarR 4))) [worldF w, c1, c2, .im (.str x), .un, .un] (fun c => ∃ ns : List Int, lstF c = some (ns.map PyData.int) ∧ K ns) (as.map encA) [] := by
  refine compGo_fm encA (fun a => !decide (x ∈ a.2)) (fun a => .int ((2 : Int) ^ (w.ks.idxOf a.1))) as (fun a m K1 K0 k1 k0 => ?_) ?_
  · 
    have hwo : ∀ y ∈ a.2, PyData.strOk y = true := fun y my => lay_name ((ha.wo a m).2.subset my)
    have hkm := ha.sub.subset (List.mem_map_of_mem m)
    have hki := List.idxOf_lt_length_iff.mpr hkm
    have hkl := hw.len
    simp [wipeC, encA, hx, -Prod.exists, -Prod.forall]
    refine ⟨hwo, ?_⟩
    by_cases e : x ∈ a.2
    · exact .inl ⟨⟨_, ⟨x, e, rfl⟩, by simp⟩, k0 (by simp [e])⟩
    · refine .inr ⟨fun y my z => e (z ▸ my), ?_⟩
      simp [worldF, -Prod.exists, -Prod.forall]
      have sk := shaped_kinds w.ks
      simp at sk
      refine ⟨sk.1, sk.2, w.ks.idxOf a.1, encK a.1, ⟨a.1, ?_, rfl⟩, by rw [eqv_encK]; simp, ?_, cpow_one _ (by omega), ?_⟩
      · rw [List.getElem?_eq_getElem hki, List.getElem_idxOf hki]
      · intro m z' hlt k hk hz
        subst hz
        rw [eqv_encK]
        have := List.not_of_lt_findIdx hlt
        obtain ⟨hh, hk⟩ := List.getElem?_eq_some_iff.mp hk
        simpa [hk] using this
      · exact k1 (by simp [e])
  · have e : (as.filter fun a => !decide (x ∈ a.2)).map (fun a => PyData.int ((2 : Int) ^ (w.ks.idxOf a.1))) = ((badL w.ks as x).map fun k => (2 : Int) ^ k).map PyData.int := by
      unfold badL; rw [List.map_map, List.map_map]; rfl
    rw [e]
    exact ⟨_, lstF_ow _, hk _ (sumPow_int _)⟩
theorem m_bad : Main T__law_bad N__law_bad S_bad := by
  rintro cs K' ⟨w, as, rfl, hw, ha, h⟩
  simp [T__law_bad, encAs, forGo]
  refine bad_word hw ha "wet" (by simp) _ _ fun ns e1 => ⟨by decide, ?_⟩
  refine bad_word hw ha "dry" (by simp) _ _ fun ns e2 => ⟨by decide, ?_⟩
  refine bad_word hw ha "kept" (by simp) _ _ fun ns e3 => ⟨by decide, ?_⟩
  rw [e1, e2, e3]
  simpa using h
def S_lmeets : FS := fun cs K' => ∃ (c : Cell) (x y z : Nat) (st : Nat × Nat), cs = [c, .im (encSt st)] ∧ LstC3 c x y z ∧ K' (.im (.bool (lmeets x y z st)))
theorem m_lmeets : Main T__law_meets N__law_meets S_lmeets := by
  rintro cs K' ⟨c, x, y, z, st, rfl, hc | hc, h⟩ <;> subst hc
  all_goals
    simp [T__law_meets, encSt, band_nat, bor_nat]
    unfold lmeets at h
    split
    · split
      · rename_i h1 h2
        simp only [h1, h2, decide_true, Bool.true_and] at h
        have e : (((st.1 ||| st.2) &&& z : Nat) == (z : Int) : Bool) = decide ((st.1 ||| st.2) &&& z = z) := by
          rw [Bool.eq_iff_iff]; simp; omega
        rw [e]; exact h
      · rename_i h1 h2
        simpa [h1, h2] using h
    · rename_i h1
      simpa [h1] using h
end L89
set_option maxHeartbeats 1000000
namespace L89
open PySem PySem.Spec PyProof.Rows L2 DL
def harmA (d : Deed) (as : List Ask) : Bool := as.all fun a => !reaches d a.1 || decide (left d ∈ a.2)
def harm (s : List Deed) (as : List Ask) : Bool := s.all fun d => harmA d as
theorem ok_left (d : Deed) : PyData.strOk (left d) = true := by unfold left; split <;> simp
def S_harmless : FS := fun cs K' => ∃ (s : List Deed) (as : List Ask), cs = [.im (encS s), .im (encAs as)] ∧ ok3 as ∧ K' (.im (.bool (harm s as)))
theorem m_harmless : Main T__law_is_harmless N__law_is_harmless S_harmless := by
  rintro cs K' ⟨s, as, rfl, h1, h⟩
  simp [T__law_is_harmless, encS]
  refine forGo_enc encDeed (I := fun rest γ => (∃ c1 c2 c3 c4, γ = [.im (encS s), .im (encAs as), c1, c2, c3, c4, .un, .un]) ∧ rest.all (fun d => harmA d as) = harm s as) ?_ ?_ _ _ ⟨⟨_, _, _, _, rfl⟩, rfl⟩
  · rintro γ ⟨⟨c1, c2, c3, c4, rfl⟩, e⟩
    simp at e
    rw [e] at h
    simpa using h
  · rintro ⟨p, x⟩ rest γ ⟨⟨c1, c2, c3, c4, rfl⟩, e⟩ nx hn
    have key : ∀ (γ : List Cell) (i : Int) (d : Deed), d.2 = x → γ = [.im (encS s), .im (encAs as), .im (.str (wd d.1)), .im (.int (x : Nat)), .im (.int i), .im (.str (left d)), .un, .un] → (∀ k : Kd, atI [encL k.1, encL k.2] i = some (encL (if d.1 = true then k.2 else k.1))) →
        ∀ K : Cell → Prop, K (.ow (((as.filter fun a => reaches d a.1 && !decide (left d ∈ a.2)).map fun _ => PyData.int 1).map .im)) → compGo (gTp 2 (gC (gNm 6) (gC (gNm 7) gN0))) (tAndX (tBl (x2 (cIn false) (xVarR 3) (xIx (xVarR 6) (xVarR 4)))) (tBl (x2 (cIn true) (xVarR 5) (xVarR 7)))) (xC (.int 1)) γ K (as.map encA) [] := by
      rintro γ i d hx rfl hi K hk
      refine compGo_fm encA (fun a => reaches d a.1 && !decide (left d ∈ a.2)) (fun _ => .int 1) as (fun a m K1 K0 k1 k0 => ?_) hk
      have hw : ∀ y ∈ a.2, PyData.strOk y = true := fun y my => lay_name ((h1 a m).subset my)
      have hr : reaches d a.1 = decide (x ∈ if d.1 = true then a.1.2 else a.1.1) := by unfold reaches; rw [hx]
      simp [encA, encK, hi, ok_left d, -Prod.exists, -Prod.forall]
      simp [encL, -Prod.exists, -Prod.forall]
      by_cases e1 : x ∈ if d.1 = true then a.1.2 else a.1.1
      · rw [if_pos ((ex_nat _ _).mpr e1)]
        refine ⟨hw, ?_⟩
        by_cases e2 : left d ∈ a.2
        · exact .inl ⟨⟨_, ⟨_, e2, rfl⟩, by simp⟩, k0 (by simp [e2])⟩
        · exact .inr ⟨fun y my z => e2 (z ▸ my), k1 (by simp [hr, e1, e2])⟩
      · rw [if_neg fun z => e1 ((ex_nat _ _).mp z)]
        exact k0 (by simp [hr, e1])
    have fin : ∀ d : Deed, ((as.filter fun a => reaches d a.1 && !decide (left d ∈ a.2)).isEmpty) = harmA d as := fun d => by
      unfold harmA
      rw [Bool.eq_iff_iff]
      simp [-Prod.forall, -Prod.exists]
      refine forall_congr' fun a => forall_congr' fun m => ?_
      cases reaches d a.1 <;> simp
    have e0 : (harmA (p, x) as && rest.all fun d => harmA d as) = harm s as := by simpa using e
    have go : ∀ {P : Prop} (γ' : List Cell), γ' = [.im (encS s), .im (encAs as), .im (.str (wd p)), .im (.int (x : Nat)), .im (.int (if p = true then 1 else 0)), .im (.str (left (p, x))), .un, .un] → 
      ∃ d, toD (.ow (((as.filter fun a => reaches (p, x) a.1 && !decide (left (p, x) ∈ a.2)).map fun _ => PyData.int 1).map .im)) = some d ∧ PyData.canLay0 d = true ∧ PyData.depth d ≤ 64 ∧ (PyData.eqv d (PyData.list []) = true ∧ nx γ' ∨ PyData.eqv d (PyData.list []) = false ∧ K' (.im (.bool false))) := by
      rintro P γ' rfl
      refine ones_or _ (fun z => hn _ ⟨⟨_, _, _, _, rfl⟩, ?_⟩) fun z => ?_
      · have := fin (p, x)
        rw [z] at this
        rw [← this] at e0
        simpa using e0
      · have := fin (p, x)
        have z2 : (as.filter fun a => reaches (p, x) a.1 && !decide (left (p, x) ∈ a.2)).isEmpty = false := by
          rw [List.isEmpty_eq_false_iff]; exact z
        rw [z2] at this
        rw [← this] at e0
        rw [← e0] at h
        simpa using h
    cases p
    · simp [encDeed, wd]
      exact ⟨_, rfl, key _ 0 (false, x) rfl rfl (fun k => by simp) _ (go (P := True) _ (by simp [wd, left]))⟩
    · simp [encDeed, wd]
      exact ⟨_, rfl, key _ 1 (true, x) rfl rfl (fun k => by simp) _ (go (P := True) _ (by simp [wd, left]))⟩
theorem firstE_none {s : List Deed} {as : List Ask} : firstE s as = none ↔ harm s as = true := by
  unfold firstE harm harmA
  rw [List.findSome?_eq_none_iff]
  simp only [List.find?_eq_none, List.all_eq_true, Bool.not_eq_true', Bool.or_eq_true, decide_eq_true_iff, Bool.not_eq_true, Bool.not_eq_false', decide_eq_false_iff_not]
  constructor
  · intro h d hd a ha
    obtain ⟨i, hi, rfl⟩ := List.getElem_of_mem hd
    cases r : reaches s[i] a.1 with
    | false => exact .inl rfl
    | true =>
      right
      have m : i ∈ reachAt s a.1 := List.mem_map.mpr ⟨(s[i], i), List.mem_filter.mpr ⟨by rw [List.mem_zipIdx_iff_getElem?]; simp [hi], r⟩, rfl⟩
      have := h a ha i m
      simpa [List.getD_eq_getElem?_getD, hi] using this
  · intro h a ha i hi
    have hl := reachAt_lt hi
    obtain ⟨p, m, e⟩ := List.mem_map.mp hi
    obtain ⟨m1, m2⟩ := List.mem_filter.mp m
    have := List.mem_zipIdx m1
    have e1 : p.1 = s[i] := by subst e; simpa using this.2.2
    rw [e1] at m2
    rcases h s[i] (List.getElem_mem hl) a ha with z | z
    · rw [m2] at z; cases z
    · simpa [List.getD_eq_getElem?_getD, hl] using z
theorem firstE_some {s : List Deed} {as : List Ask} {i : Nat} (h : firstE s as = some i) : i < s.length ∧ ∃ a ∈ as, reaches (s.getD i (false, 0)) a.1 = true ∧ left (s.getD i (false, 0)) ∉ a.2 := by
  unfold firstE at h
  obtain ⟨a, ha, e⟩ := List.exists_of_findSome?_eq_some h
  have m := List.mem_of_find?_eq_some e
  have p := List.find?_some e
  have hl := reachAt_lt m
  obtain ⟨q, m0, eq⟩ := List.mem_map.mp m
  obtain ⟨m1, m2⟩ := List.mem_filter.mp m0
  have := List.mem_zipIdx m1
  have e1 : q.1 = s[i] := by subst eq; simpa using this.2.2
  rw [e1] at m2
  refine ⟨hl, a, ha, ?_, by simpa using p⟩
  simpa [List.getD_eq_getElem?_getD, hl] using m2
theorem harm_all {s : List Deed} {as : List Ask} (h : harm s as = true) (hm : meets s as = true) {i : Nat} (hi : i < s.length) (a : Nat) : meets (agn s i a) as = true := by
  have sub : ∀ d ∈ agn s i a, d ∈ s := fun d m => by
    unfold agn at m
    rcases List.mem_append.mp m with m | m
    · exact List.mem_of_mem_take m
    · rcases List.mem_cons.mp m with e | m
      · rw [e, List.getD_eq_getElem?_getD, List.getElem?_eq_getElem hi]; exact List.getElem_mem hi
      · exact List.mem_of_mem_drop m
  have sup : ∀ d ∈ s, d ∈ agn s i a := fun d m => by
    rw [← List.take_append_drop a s] at m
    unfold agn
    rcases List.mem_append.mp m with m | m
    · exact List.mem_append_left _ m
    · exact List.mem_append_right _ (List.mem_cons_of_mem _ m)
  unfold meets at hm ⊢
  rw [List.all_eq_true] at hm ⊢
  intro k hk
  rw [decide_eq_true_iff]
  have h0 := of_decide_eq_true (hm k hk)
  unfold standing at h0 ⊢
  cases e : (agn s i a).reverse.find? fun d => reaches d k.1 with
  | none =>
    have e2 : (s.reverse.find? fun d => reaches d k.1) = none := by
      rw [List.find?_eq_none] at e ⊢
      intro d hd
      exact e d (List.mem_reverse.mpr (sup d (List.mem_reverse.mp hd)))
    rw [e2] at h0; exact h0
  | some d =>
    have m := sub d (List.mem_reverse.mp (List.mem_of_find?_eq_some e))
    have r := List.find?_some e
    have := List.all_eq_true.mp (List.all_eq_true.mp h d m) k hk
    simp only [r, Bool.not_true, Bool.false_or, decide_eq_true_iff] at this
    exact this
theorem echo_break {s : List Deed} {as : List Ask} {i : Nat} (h : firstE s as = some i) : meets (agn s i s.length) as = false := by
  obtain ⟨hl, a, ha, r, n⟩ := firstE_some h
  cases q : meets (agn s i s.length) as with
  | false => rfl
  | true =>
    have := of_decide_eq_true (List.all_eq_true.mp q a ha)
    have e : agn s i s.length = s ++ [s.getD i (false, 0)] := by unfold agn; simp
    rw [e, standing_snoc, if_pos r] at this
    exact absurd this n
def Brk (s : List Deed) (as : List Ask) (l : List (Nat × Nat)) : Prop := ∀ p, p ∈ l ↔ p.1 < p.2 ∧ p.2 ≤ s.length ∧ meets (agn s p.1 p.2) as = false
theorem brk_nil {s : List Deed} {as : List Ask} {l : List (Nat × Nat)} (hm : meets s as = true) (h : Brk s as l) : l = [] ↔ firstE s as = none := by
  constructor
  · rintro rfl
    cases e : firstE s as with
    | none => rfl
    | some i =>
      have := (h (i, s.length)).mpr ⟨(firstE_some e).1, Nat.le_refl _, echo_break e⟩
      cases this
  · intro e
    rw [List.eq_nil_iff_forall_not_mem]
    intro p m
    obtain ⟨h1, h2, h3⟩ := (h p).mp m
    rw [harm_all (firstE_none.mp e) hm (by omega) p.2] at h3
    cases h3
end L89
set_option maxHeartbeats 1000000
namespace L89
open PySem PySem.Spec PyProof.Rows L2 DL
@[simp] theorem sf_S (s : List Deed) : seqF (.im (encS s)) = some (s.map encDeed) := rfl
@[simp] theorem sl_S (s : List Deed) : slC (.im (encS s)) = some (s.map encDeed, true) := rfl
@[simp] theorem ln_S (s : List Deed) : lenC (.im (encS s)) = some s.length := by simp [encS]
@[simp] theorem sf_As (s : List Ask) : seqF (.im (encAs s)) = some (s.map encA) := rfl
def stl (ks : List Kd) (s : List Deed) : List D := (List.range (s.length + 1)).map fun j => encSt (stateOf ks (s.take j))
theorem stl_snoc (ks : List Kd) (s : List Deed) (d : Deed) : stl ks (s ++ [d]) = stl ks s ++ [encSt (stateOf ks (s ++ [d]))] := by
  unfold stl
  rw [List.length_append, List.length_singleton, List.range_succ (n := s.length + 1), List.map_append]
  congr 1
  · refine List.map_congr_left fun j hj => ?_
    have : j ≤ s.length := by have := List.mem_range.mp hj; omega
    rw [List.take_append_of_le_length this]
  · simp [List.take_of_length_le]
theorem stl_last (ks : List Kd) (s : List Deed) : atI ((stl ks s).map Cell.im) (-1) = some (.im (encSt (stateOf ks s))) := by
  unfold stl
  rw [List.range_succ, List.map_append, List.map_cons, List.map_nil, atI_last_map, List.take_length]
theorem stl_at (ks : List Kd) (s : List Deed) (j : Nat) (h : j ≤ s.length) : atI ((stl ks s).map Cell.im) (j : Int) = some (.im (encSt (stateOf ks (s.take j)))) := by
  rw [DL.atI_nat (by simp [stl]; omega)]
  simp [stl]
def brk1 (s : List Deed) (as : List Ask) (i : Nat) (l : List (Nat × Nat)) (j : Nat) : List (Nat × Nat) := if meets (agn s i (i + 1 + j)) as = true then l else l ++ [(i, i + 1 + j)]
def brkI (s : List Deed) (as : List Ask) (l : List (Nat × Nat)) (p : Deed × Nat) : List (Nat × Nat) := (List.range (s.length - p.2)).foldl (brk1 s as p.2) l
def brkL (s : List Deed) (as : List Ask) : List (Nat × Nat) := s.zipIdx.foldl (brkI s as) []
theorem brk1_len (s : List Deed) (as : List Ask) (i : Nat) (l : List (Nat × Nat)) (j : Nat) : (brk1 s as i l j).length ≤ l.length + 1 := by
  unfold brk1; split <;> simp
theorem brkI_len (s : List Deed) (as : List Ask) (l : List (Nat × Nat)) (p : Deed × Nat) : (brkI s as l p).length ≤ l.length + s.length := by
  unfold brkI
  have := fold_len (brk1 s as p.2) 1 (brk1_len s as p.2) (List.range (s.length - p.2)) l
  simp at this
  omega
theorem brkL_ok (s : List Deed) (as : List Ask) : Brk s as (brkL s as) := by
  have h1 : ∀ i (l : List (Nat × Nat)) (j : Nat) (q : Nat × Nat), q ∈ brk1 s as i l j ↔ q ∈ l ∨ (q = (i, i + 1 + j) ∧ meets (agn s i (i + 1 + j)) as = false) := fun i l j q => by
    unfold brk1
    cases e : meets (agn s i (i + 1 + j)) as <;> simp
  have h2 : ∀ (l : List (Nat × Nat)) (p : Deed × Nat) (q : Nat × Nat), q ∈ brkI s as l p ↔ q ∈ l ∨ (q.1 = p.2 ∧ q.1 < q.2 ∧ q.2 ≤ s.length ∧ meets (agn s q.1 q.2) as = false) := fun l p q => by
    unfold brkI
    rw [fold_mem _ _ (h1 p.2)]
    refine or_congr Iff.rfl ?_
    constructor
    · rintro ⟨j, hj, rfl, e⟩
      have := List.mem_range.mp hj
      exact ⟨rfl, by simp only []; omega, by simp only []; omega, e⟩
    · rintro ⟨e1, e2, e3, e4⟩
      refine ⟨q.2 - (p.2 + 1), List.mem_range.mpr (by omega), ?_, ?_⟩
      · refine Prod.ext e1 ?_
        simp only []; omega
      · rw [show p.2 + 1 + (q.2 - (p.2 + 1)) = q.2 by omega, ← e1]; exact e4
  intro q
  unfold brkL
  rw [fold_mem _ _ h2]
  simp only [List.not_mem_nil, false_or]
  constructor
  · rintro ⟨p, _, _, h⟩; exact h
  · intro h
    have hl : q.1 < s.length := by omega
    exact ⟨(s[q.1], q.1), by rw [List.mem_zipIdx_iff_getElem?]; simp [hl], rfl, h⟩
theorem agn_state (ks : List Kd) (s : List Deed) (i a : Nat) (hi : i < s.length) : (s.drop a).foldl (beh ks) (beh ks (stateOf ks (s.take a)) s[i]) = stateOf ks (agn s i a) := by
  unfold agn
  have e : s[i] = s.getD i (false, 0) := by simp [List.getD_eq_getElem?_getD, hi]
  rw [← e, List.append_cons, stateOf_app, stateOf_snoc]
def S_breaking : FS := fun cs K' => ∃ (w : WC) (s : List Deed) (as : List Ask) (c : Cell), cs = [worldF w, .im (encS s), c] ∧ c.flat = true ∧ w.ok ∧ AsksIn w.ks as ∧ (∀ d ∈ s, d.2 < w.b.n) ∧ s.length ≤ 100 ∧
  LstC3 c (badM w.ks as "wet") (badM w.ks as "dry") (badM w.ks as "kept") ∧ K' (.ow (((brkL s as).map encP).map .im))
theorem m_breaking : Main (T__law_breaking S_behind S_lmeets) N__law_breaking S_breaking := by
  rintro cs K' ⟨w, s, as, c, rfl, hf, hw, ha, hd, hl, hc, h⟩
  simp [T__law_breaking, encS]
  refine forGo_pre encDeed (fun p d => p ++ [d]) (fun p γ => ∃ c5, γ = [worldF w, .im (encS s), c, .ow [], .ow ((stl w.ks p).map .im), c5, .un, .un, .un, .un]) [] s _ ⟨_, rfl⟩ ?_ ?_
  · rintro pre d rest e γ ⟨c5, rfl⟩ nx hn
    have hp : ∀ l : List Deed, l.foldl (fun p d => p ++ [d]) [] = l := by
      intro l
      have : ∀ (l m : List Deed), l.foldl (fun p d => p ++ [d]) m = m ++ l := by
        intro l
        induction l with
        | nil => simp
        | cons x l ih => intro m; simp [ih]
      simpa using this l []
    rw [hp] at hn ⊢
    have hlen : (stl w.ks pre).length < sizeLine := lt_size (by simp [stl]; have := congrArg List.length e; simp at this; omega)
    simp [stl_last]
    refine ⟨w, _, d, rfl, hw, hd d (by rw [e]; simp), hlen, hn _ ⟨.im (encDeed d), ?_⟩⟩
    rw [stl_snoc, stateOf_snoc]
    simp
  · rintro γ ⟨c5, rfl⟩
    have hp : ∀ l : List Deed, l.foldl (fun p d => p ++ [d]) [] = l := by
      intro l
      have : ∀ (l m : List Deed), l.foldl (fun p d => p ++ [d]) m = m ++ l := by
        intro l
        induction l with
        | nil => simp
        | cons x l ih => intro m; simp [ih]
      simpa using this l []
    rw [hp]
    simp [enumD_map]
    refine forGo_pre _ (brkI s as) (fun l γ => ∃ c5 c6 c7 c8 c9, γ = [worldF w, .im (encS s), c, .ow ((l.map encP).map .im), .ow ((stl w.ks s).map .im), c5, c6, c7, c8, c9]) [] s.zipIdx _ ⟨_, _, _, _, _, rfl⟩ ?_ ?_
    · rintro pre ⟨d, i⟩ rest e γ ⟨c5, c6, c7, c8, c9, rfl⟩ nx hn
      have hi : i < s.length ∧ d = s.getD i (false, 0) := by
        have := List.mem_zipIdx (show (d, i) ∈ s.zipIdx by rw [e]; simp)
        have hi : i < s.length := by omega
        refine ⟨hi, ?_⟩
        have := this.2.2
        simp [List.getD_eq_getElem?_getD, hi, this]
      obtain ⟨hi, rfl⟩ := hi
      simp [-List.getD_eq_getElem?_getD, -List.map_map]
      refine ⟨by omega, by omega, by omega, by omega, ?_⟩
      rw [show ((s.length : Int) + 1 - (i + 1)).toNat = s.length - i by omega]
      have hpl : (pre.foldl (brkI s as) []).length ≤ 10000 := by
        have h1 := fold_len (brkI s as) s.length (brkI_len s as) pre []
        have h2 : pre.length ≤ 100 := by have := congrArg List.length e; simp at this; omega
        have h3 : pre.length * s.length ≤ 100 * 100 := Nat.mul_le_mul h2 hl
        simp at h1
        omega
      generalize hL : pre.foldl (brkI s as) [] = L at hn hpl
      refine forGo_pre (fun j : Nat => PyData.int ((i : Int) + 1 + j)) (brk1 s as i) (fun l γ => ∃ c7 c8 c9, γ = [worldF w, .im (encS s), c, .ow ((l.map encP).map .im), .ow ((stl w.ks s).map .im), .im (encDeed (s.getD i (false, 0))), .im (.int i), c7, c8, c9]) L (List.range (s.length - i)) _ ⟨_, _, _, rfl⟩ ?_ ?_
      · rintro pj j rj ej γ ⟨c7, c8, c9, rfl⟩ nx hn
        have hj : j < s.length - i := by
          have : j ∈ List.range (s.length - i) := by rw [ej]; simp
          simpa using this
        have hpl2 : (pj.foldl (brk1 s as i) L).length ≤ 10200 := by
          have h1 := fold_len (brk1 s as i) 1 (brk1_len s as i) pj L
          have h2 := congrArg List.length ej
          simp at h2
          omega
        generalize pj.foldl (brk1 s as i) L = L2 at hn hpl2
        have hat := stl_at w.ks s (i + 1 + j) (by omega)
        have hdi : (s.getD i (false, 0)).2 < w.b.n := by
          have : s.getD i (false, 0) = s[i] := by simp [List.getD_eq_getElem?_getD, hi]
          rw [this]; exact hd _ (List.getElem_mem hi)
        simp [-List.getD_eq_getElem?_getD, -List.map_map]
        have hcast : ((i : Int) + 1 + j) = ((i + 1 + j : Nat) : Int) := by omega
        rw [hcast, hat]
        generalize hm : i + 1 + j = m at hat hn
        refine ⟨_, rfl, rfl, w, _, _, rfl, hw, hdi, ?_⟩
        rw [cut_from, ← List.map_drop]
        refine forGo_fold encDeed (beh w.ks) (fun st γ => ∃ c9, γ = [worldF w, .im (encS s), c, .ow ((L2.map encP).map .im), .ow ((stl w.ks s).map .im), .im (encDeed (s.getD i (false, 0))), .im (.int i), .im (.int m), .im (encSt st), c9]) (beh w.ks (stateOf w.ks (s.take m)) (s.getD i (false, 0))) (s.drop m) _ ⟨_, rfl⟩ ?_ ?_
        · rintro d hm2 st γ ⟨c9, rfl⟩ nx hn
          simp [-List.getD_eq_getElem?_getD, -List.map_map]
          exact ⟨w, st, d, rfl, hw, hd d (List.mem_of_mem_drop hm2), hn _ ⟨_, rfl⟩⟩
        · rintro γ ⟨c9, rfl⟩
          have eS : (s.drop m).foldl (beh w.ks) (beh w.ks (stateOf w.ks (s.take m)) (s.getD i (false, 0))) = stateOf w.ks (agn s i m) := by
            have : s.getD i (false, 0) = s[i] := by simp [List.getD_eq_getElem?_getD, hi]
            rw [this]
            exact agn_state w.ks s i m hi
          rw [eS]
          simp [-List.getD_eq_getElem?_getD, -List.map_map, hf]
          refine ⟨c, _, _, _, _, rfl, hc, ?_⟩
          rw [lmeets_eq hw ha (state_ok _ _)]
          unfold brk1 at hn
          rw [hm] at hn
          have hsz : L2.length < sizeLine := Nat.lt_of_lt_of_le (show L2.length < 20000 by omega) (by decide)
          cases q : meets (agn s i m) as with
          | false =>
            rw [q, if_neg (by simp)] at hn
            refine .inl ⟨rfl, hsz, hn _ ⟨.im (.int m), .im (encSt (stateOf w.ks (agn s i m))), c9, ?_⟩⟩
            simp [encP]
          | true =>
            rw [q, if_pos rfl] at hn
            exact .inr ⟨rfl, hn _ ⟨_, _, _, rfl⟩⟩
      · rintro γ ⟨c7, c8, c9, rfl⟩
        exact hn _ ⟨_, _, _, _, _, rfl⟩
    · rintro γ ⟨c5, c6, c7, c8, c9, rfl⟩
      simpa [brkL, -List.map_map] using h
end L89
set_option maxHeartbeats 1000000
namespace L89
open PySem PySem.Spec PyProof.Rows L2 DL
def ckeys : List Key := [.inr "deeds", .inr "asks", .inr "breaking"]
def ccells (s : List Deed) (as : List Ask) (l : List (Nat × Nat)) : List Cell := [.im (encS s), .im (encAs as), .im (.list (l.map encP))]
def caseF (s : List Deed) (as : List Ask) (l : List (Nat × Nat)) : Cell := .fk ckeys (ccells s as l)
@[simp] theorem fl_case (s : List Deed) (as : List Ask) (l : List (Nat × Nat)) : (caseF s as l).flat = true := rfl
section
variable (s : List Deed) (as : List Ask) (l : List (Nat × Nat))
@[simp] theorem get_deeds : getK ckeys (ccells s as l) (.inr (Str.ofString "deeds")) = some (.im (encS s)) := by unfold ckeys ccells; kernel_rfl
@[simp] theorem get_asks : getK ckeys (ccells s as l) (.inr (Str.ofString "asks")) = some (.im (encAs as)) := by unfold ckeys ccells; kernel_rfl
@[simp] theorem get_brk : getK ckeys (ccells s as l) (.inr (Str.ofString "breaking")) = some (.im (.list (l.map encP))) := by unfold ckeys ccells; kernel_rfl
end
theorem shaped_prs (l : List (Nat × Nat)) : PyData.canLayAll0 (l.map encP) = true ∧ PyData.depthAll (l.map encP) ≤ 63 := by
  refine ⟨layAll_map fun p _ => by simp [encP], ?_⟩
  have := depAll_map (f := encP) (l := l) (m := 1) fun p _ => by simp [encP]
  omega
theorem any_prs (l : List (Nat × Nat)) (i a : Nat) : ((l.map encP).any fun z => PyData.eqv z (.tuple [.int (i : Nat), .int (a : Nat)])) = decide ((i, a) ∈ l) := by
  rw [Bool.eq_iff_iff, List.any_map]
  simp only [List.any_eq_true, decide_eq_true_iff]
  constructor
  · rintro ⟨⟨x, y⟩, m, e⟩
    simp [encP] at e
    have : x = i ∧ y = a := by omega
    rw [← this.1, ← this.2]; exact m
  · intro m
    exact ⟨(i, a), m, by simp [encP]⟩
def S_right : FS := fun cs K' => ∃ (s : List Deed) (as : List Ask) (l : List (Nat × Nat)) (d : D), cs = [caseF s as l, .im d] ∧ meets s as = true ∧ Brk s as l ∧ fit d = true ∧ K' (.im (.bool (holdsE s as d)))
theorem noD_of {d : D} (h : okD d = true) : noDict d = true := by cases d <;> simp [okD, noDict] at h ⊢
theorem m_right : Main (T__law_is_right S_isint) N__law_is_right S_right := by
  rintro cs K' ⟨s, as, l, d, rfl, hm, hb, hf, h⟩
  have hnil := brk_nil hm hb
  have hlay := shaped_prs l
  simp [T__law_is_right, caseF, -Bool.exists_bool]
  cases d with
  | tuple ds =>
    rcases ds with _ | ⟨x, _ | ⟨y, _ | ⟨z, _ | ⟨u, r⟩⟩⟩⟩
    · simpa [holdsE] using h
    · simp [fit, okD, okDs] at hf
      cases x with
      | str v =>
        obtain ⟨a1, a2, a3⟩ := hf
        simp [holdsE] at h
        simp
        have hv : PyData.strOk v = true := by simpa [okD] using a1
        simp [hv, hlay]
        by_cases e : v = Str.ofString "firm"
        · subst e
          rw [if_pos rfl]
          have e2 : PyData.eqvAll (l.map encP) [] = (firstE s as).isNone := by
            rw [Bool.eq_iff_iff, Option.isNone_iff_eq_none, ← hnil]
            cases l <;> simp
          rw [e2]
          simpa using h
        · rw [if_neg e]
          simpa [e] using h
      | _ => simp_all [holdsE, okD, okDs]
    · simp [holdsE] at h
      simp
      exact h
    · simp [fit, okD, okDs] at hf
      cases x with
      | str v =>
        obtain ⟨a1, a2, a3, b1, b2, b3, b4⟩ := hf
        have hv : PyData.strOk v = true := by simpa [okD] using a1
        have hn2 := noD_of a2
        have hn3 := noD_of a3
        simp [holdsE] at h
        simp [hv, hlay, b2, b3, -List.any_map]
        by_cases e : v = Str.ofString "echo"
        · refine .inl ⟨e, ?_⟩
          simp [e] at h
          simp [compGo, S_isint, hn2, hn3, -Bool.exists_bool, -List.any_map]
          have no : ∀ z, (∀ i a : Int, y = .int i → z = .int a → ¬ (0 ≤ i ∧ i ≤ s.length ∧ 0 ≤ a ∧ a ≤ s.length)) → echoes s as y z = false := fun z q => by
            unfold echoes
            split
            · rename_i i a
              have := q i a rfl rfl
              rw [Bool.eq_false_iff]
              intro p
              simp at p
              omega
            · rfl
          by_cases q1 : isBtw 0 s.length y = true
          · rw [if_pos q1]
            by_cases q2 : isBtw 0 s.length z = true
            · rw [if_pos q2]
              cases y <;> simp [isBtw] at q1
              cases z <;> simp [isBtw] at q2
              rename_i i a
              obtain ⟨i, rfl⟩ := Int.eq_ofNat_of_zero_le q1.1
              obtain ⟨a, rfl⟩ := Int.eq_ofNat_of_zero_le q2.1
              refine ⟨by simp, ?_⟩
              have ep := any_prs l i a
              rw [List.any_map] at ep
              rw [ep]
              have : echoes s as (.int (i : Nat)) (.int (a : Nat)) = decide ((i, a) ∈ l) := by
                rw [Bool.eq_iff_iff, decide_eq_true_iff, hb (i, a)]
                cases q : meets (agn s i a) as <;> simp [echoes, q]
                omega
              rw [this] at h
              exact h
            · rw [if_neg q2]
              rw [no z fun i a _ e2 => by subst e2; simp [isBtw] at q2; omega] at h
              exact h
          · rw [if_neg q1]
            rw [no z fun i a e1 _ => by subst e1; simp [isBtw] at q1; omega] at h
            exact h
        · refine .inr ⟨e, ?_⟩
          simpa [e] using h
      | _ => simp_all [holdsE, okD, okDs]
    · simp [holdsE] at h
      simp
      exact .inr ⟨by omega, by omega, h⟩
  | dict kvs => simp [fit, okD] at hf
  | _ => simpa [holdsE] using h
def S_holds : FS := fun cs K' => ∃ (w : WC) (s : List Deed) (as : List Ask) (l : List (Nat × Nat)) (d : D) (n : Bool), cs = [worldF w, caseF s as l, .im d, .im (.bool n)] ∧ w.ok ∧ AsksIn w.ks as ∧ (∀ d ∈ s, d.2 < w.b.n) ∧ s.length ≤ 100 ∧ meets s as = true ∧ Brk s as l ∧ fit d = true ∧ K' (.im (.bool true))
theorem m_holds : Main (T__law_holds S_right S_same S_echo_holds) N__law_holds S_holds := by
  rintro cs K' ⟨w, s, as, l, d, n, rfl, hw, ha, hs, hl, hm, hb, hf, h⟩
  have all := ha.all hw hs
  simp [T__law_holds, -Bool.exists_bool]
  refine ⟨s, as, l, d, rfl, hm, hb, hf, ?_⟩
  have hh : S_same [.im (.bool (holdsE s as d)), .im (.bool (holdsE s as d))] K' := .inl (.inr ⟨_, _, rfl, by simpa using h⟩)
  simp [worldF, caseF, -Bool.exists_bool]
  cases n
  · exact ⟨w.b, s, as, d, rfl, all, hm, hl, hf, hh⟩
  · exact ⟨w.b, s, as, d, rfl, all, hm, hl, hf, hh⟩
end L89
set_option maxHeartbeats 1000000
namespace L89
open PySem PySem.Spec PyProof.Rows L2 DL
theorem shaped_deeds (ds : List Deed) : PyData.canLayAll0 (ds.map encDeed) = true ∧ PyData.depthAll (ds.map encDeed) ≤ 63 := by
  refine ⟨layAll_map fun p _ => by obtain ⟨a, b⟩ := p; cases a <;> simp [encDeed, wd], ?_⟩
  have := depAll_map (f := encDeed) (l := ds) (m := 1) fun p _ => by simp [encDeed]
  omega
theorem im_inj {ds : List D} {s : List Deed} (h : ds.map Cell.im = (s.map encDeed).map Cell.im) : ds = s.map encDeed := by
  have := congrArg toDs h
  simpa [-List.map_map] using this
def S_script : FS := fun cs K' => ∃ (ds : List Deed) (m : Nat), cs = [.deck, .im (.list (ds.map encDeed)), .im (.int (m : Nat))] ∧ ds.length ≤ 100 ∧ m ≤ 100 ∧ ∀ s : List Deed, (∀ d ∈ s, d ∈ ds) → s.length ≤ m → K' (.im (encS s))
theorem m_script : Main (T__law_script S_draw S_pick) N__law_script S_script := by
  rintro cs K' ⟨ds, m, rfl, h1, h2, h⟩
  have hs := shaped_deeds ds
  simp [T__law_script, hs]
  cases ds with
  | nil =>
    simp
    exact h [] (fun _ z => nomatch z) (Nat.zero_le _)
  | cons d0 ds =>
    refine .inr ⟨by simp, ?_⟩
    rw [show ((m : Int) + 1) = ((m + 1 : Nat) : Int) by omega]
    refine draw_nat (by omega) (by omega) fun r hr => ?_
    simp [-List.map_cons]
    refine ⟨by omega, compGo_all encN encDeed (fun d => d ∈ d0 :: ds) (List.range r) (fun i hi K1 K0 hk => ?_) fun ys hl hP => ?_⟩
    · simp [-List.map_cons]
      refine ⟨(d0 :: ds).map encDeed, .inr rfl, by simp, by simp at h1 ⊢; omega, fun d hd => ?_⟩
      obtain ⟨x, hx, rfl⟩ := List.mem_map.mp hd
      exact hk x hx
    · refine ⟨ys.map encDeed, seqF_o, h ys hP (by simp at hl; omega)⟩
def S_echoed : FS := fun cs K' => ∃ (w : WC) (m : Nat), cs = [.deck, worldF w, .im (.int (m : Nat))] ∧ w.ok ∧ m ≤ 24 ∧ ∀ s : List Deed, (∀ d ∈ s, d.2 < w.b.n) → s.length ≤ m → K' (.im (encS s))
theorem m_echoed : Main (T__law_echoed S_deeds S_script S_pick S_draw) N__law_echoed S_echoed := by
  rintro cs K' ⟨w, m, rfl, hw, hm, h⟩
  simp [T__law_echoed, worldF]
  refine ⟨w.b.n, rfl, hw.b.2.1, fun ds d1 d2 d3 => ?_⟩
  simp [fzAll, -List.map_map]
  refine ⟨[.int 2, .int 4, .int 6, .int (m : Nat)], .inl rfl, by simp, by simp, fun d hd => ?_⟩
  have : ∃ k : Nat, d = .int (k : Nat) ∧ k ≤ 24 := by
    simp at hd
    rcases hd with rfl | rfl | rfl | rfl
    · exact ⟨2, rfl, by omega⟩
    · exact ⟨4, rfl, by omega⟩
    · exact ⟨6, rfl, by omega⟩
    · exact ⟨m, rfl, hm⟩
  obtain ⟨k, rfl, hk⟩ := this
  refine ⟨ds, k, rfl, by omega, by omega, fun s hs hl => ?_⟩
  refine ⟨[.int 1, .int 1, .int 2, .int 3], .inl rfl, by simp, by simp, fun d hd => ?_⟩
  have : ∃ t : Nat, d = .int (t : Nat) ∧ 1 ≤ t ∧ t ≤ 3 := by
    simp at hd
    rcases hd with rfl | rfl | rfl
    · exact ⟨1, rfl, by omega⟩
    · exact ⟨2, rfl, by omega⟩
    · exact ⟨3, rfl, by omega⟩
  obtain ⟨t, rfl, ht, ht2⟩ := this
  simp [-List.map_map]
  refine forGo_enc encDeed (I := fun rest γ => (∃ (f : List Deed) (c7 : Cell), γ = [.deck, worldF w, .im (.int m), .im (.list (ds.map encDeed)), .ow ((f.map encDeed).map .im), .im (encS s), .im (.int t), c7] ∧ (∀ d ∈ f, d.2 < w.b.n) ∧ f.length + rest.length * 3 ≤ 72) ∧ ∀ d ∈ rest, d.2 < w.b.n) ?_ ?_ _ _ ⟨⟨[], _, rfl, fun _ z => (nomatch z), by simp; omega⟩, fun d hd => d2 d (hs d hd)⟩
  · rintro γ ⟨⟨f, c7, rfl, hf, hl⟩, _⟩
    simp [-List.map_map, cut_to]
    rw [← List.map_take]
    exact h _ (fun d hd => hf d (List.mem_of_mem_take hd)) (by simp; omega)
  · rintro d rest γ ⟨⟨f, c7, rfl, hf, hl⟩, hr0⟩ nx hn
    simp [-List.map_map]
    refine draw_nat ht (by omega) fun r hr => ?_
    refine ⟨r, rfl, [encDeed d], rfl, by omega, by omega, ?_⟩
    rw [show (1 + (r : Int)).toNat = r + 1 by omega]
    simp at hl
    refine ⟨le_size (by simp; omega), le_size (by simp; omega), hn _ ⟨⟨f ++ List.replicate (r + 1) d, .im (encDeed d), ?_, fun x hx => ?_, by simp; omega⟩, fun x hx => hr0 x (List.mem_cons_of_mem _ hx)⟩⟩
    · simp [List.flatten_replicate_singleton, -List.replicate_succ]
    · rcases List.mem_append.mp hx with hx | hx
      · exact hf x hx
      · rw [List.eq_of_mem_replicate hx]; exact hr0 d List.mem_cons_self
def S_calm : FS := fun cs K' => ∃ (w : WC) (as : List Ask), cs = [.deck, worldF w, .im (encAs as)] ∧ w.ok ∧ AsksIn w.ks as ∧ ∀ s : List Deed, (∀ d ∈ s, d.2 < w.b.n) → s.length ≤ 8 → K' (.im (encS s))
theorem m_calm : Main (T__law_calm S_deeds S_harmless S_script) N__law_calm S_calm := by
  rintro cs K' ⟨w, as, rfl, hw, ha, h⟩
  simp [T__law_calm, worldF]
  refine ⟨w.b.n, rfl, hw.b.2.1, fun ds d1 d2 d3 => ⟨_, seqF_o, ?_⟩⟩
  refine compGo_fm encDeed (fun d => harm [d] as) encDeed ds (fun d hd K1 K0 k1 k0 => ?_) ?_
  · simp [-Bool.exists_bool]
    refine ⟨[d], as, rfl, fun a m => (ha.wo a m).2, harm [d] as, rfl, ?_⟩
    cases e : harm [d] as
    · simpa using k0 e
    · simpa using k1 e
  · simp [fzAll, -List.map_map]
    refine ⟨ds.filter fun d => harm [d] as, 8, rfl, by have := List.length_filter_le (fun d => harm [d] as) ds; omega, by omega, fun s hs hl => h s (fun d m => d2 d (List.mem_filter.mp (hs d m)).1) hl⟩
end L89
set_option maxHeartbeats 1000000
namespace L89
open PySem PySem.Spec PyProof.Rows L2 DL
theorem nil_sub {α : Type} : ∀ {n : Nat} (ks : List Kd), n = ks.length → True := fun _ _ => trivial
@[simp] theorem ln_kinds (ks : List Kd) : lenC (.im (.list (ks.map encK))) = some ks.length := by simp
def keysN (l : List Nat) : List Key := l.map fun x => .inl (x : Nat)
theorem keysN_nodup {l : List Nat} (h : l.Nodup) : (keysN l).Nodup := List.pairwise_map.mpr (h.imp fun {a b} h e => h (by have := Sum.inl.inj e; omega))
theorem keysN_mem {l : List Nat} {k : Nat} : (Sum.inl (k : Int) : Key) ∈ keysN l ↔ k ∈ l := by
  unfold keysN
  constructor
  · intro m
    obtain ⟨x, m, e⟩ := List.mem_map.mp m
    have := Sum.inl.inj e
    rw [show k = x by omega]; exact m
  · intro m
    exact List.mem_map.mpr ⟨k, m, rfl⟩
theorem keysN_put {l : List Nat} (k : Nat) (cs : List Cell) (c : Cell) : ∃ cs', putC (keysN l) cs (.inl (k : Int)) c = (keysN (if k ∈ l then l else l ++ [k]), cs') := by
  unfold putC
  by_cases h : k ∈ l
  · rw [if_pos (keysN_mem.mpr h), if_pos h]; exact ⟨_, rfl⟩
  · rw [if_neg fun z => h (keysN_mem.mp z), if_neg h]
    exact ⟨cs ++ [c], by simp [keysN]⟩
theorem words_go {x : Str} (okx : PyData.strOk x = true) (hx : x ∈ names3) (c1 c2 c3 c4 c5 c7 c8 c9 c11 : Cell) (lo : Nat) (Kc : Cell → Prop) (hk : ∀ ys : List Str, WordsOk ys → x ∈ ys → Kc (.ow ((ys.map .str).map .im))) : compGo (gNm 12) (tOrX (tBl (x2 cEq (xVarR 12) (xVarR 10))) (tBl (x2 (cB0 fun i j => decide (i < j)) (xCall S_draw (xCons (xVar 0) (xCons (xC (PyData.int 8)) xNil))) (xVarR 6)))) (xVar 12)
    [.deck, c1, c2, c3, c4, c5, .im (.int lo), c7, c8, c9, .im (.str x), c11, .un] Kc [.str "dry", .str "kept", .str "wet"] [] := by
  refine compGo_sub .str .str (fun _ => True) (fun y => y = x) names3 (fun y hy K1 K0 k1 k0 => ?_) fun ys h1 _ h3 => hk ys ⟨fun z => ?_, h1⟩ (h3 x hx rfl)
  · have oky := lay_name hy
    simp [okx, oky]
    by_cases e : y = x
    · subst e; simp; exact k1 trivial
    · rw [if_neg e]
      refine draw_nat (k := 8) (by omega) (by omega) fun r hr => ⟨r, rfl, ?_⟩
      by_cases e2 : (r : Int) < lo
      · simp [e2]; exact k1 trivial
      · simp [e2]; exact k0 e
  · have := h3 x hx rfl
    rw [z] at this; cases this
def S_met : FS := fun cs K' => ∃ (w : WC) (s : List Deed) (m : Nat), cs = [.deck, worldF w, .im (encS s), .im (.int (m : Nat))] ∧ w.ok ∧ (∀ d ∈ s, d.2 < w.b.n) ∧ 1 ≤ m ∧ m ≤ 8 ∧ ∀ as : List Ask, AsksIn w.ks as → meets s as = true → K' (.im (encAs as))
theorem m_met : Main (T__law_met_asks S_state S_draw) N__law_met_asks S_met := by
  rintro cs K' ⟨w, s, m, rfl, hw, hs, hm1, hm2, h⟩
  simp [T__law_met_asks]
  refine ⟨w, s, rfl, hw, hs, ?_⟩
  generalize hst : stateOf w.ks s = st
  have hok : StOk w.ks st s := hst ▸ state_ok w.ks s
  have hlen := hw.len
  have hpos : 0 < w.ks.length := List.length_pos_iff.mpr hw.ne
  refine draw_nat (k := 5) (by omega) (by omega) fun lo hlo => ?_
  refine draw_nat hm1 (by omega) fun r hr => ?_
  simp
  refine ⟨by omega, by omega, ?_⟩
  rw [show (1 + (r : Int)).toNat = r + 1 by omega]
  refine forGo_enc encN (I := fun rest γ => (∃ (l : List Nat) (c : List Cell) (c8 c9 : Cell), γ = [.deck, worldF w, .im (encS s), .im (.int m), .im (encSt st), .dk (keysN l) c, .im (.int lo), .ow [], c8, c9, .un, .un, .un] ∧ l.Nodup ∧ (∀ k ∈ l, k < w.ks.length) ∧ l.length + rest.length ≤ 10)) ?_ ?_ (List.range (r + 1)) _ ⟨[], [], _, _, rfl, List.nodup_nil, (fun _ z => nomatch z), by simp; omega⟩
  · rintro γ ⟨l, c, c8, c9, rfl, h1, h2, h3⟩
    simp
    have ek : (List.map (Cell.im ∘ keyOfD) (keysN l)) = (l.map fun x => PyData.int (x : Nat)).map Cell.im := by
      simp [keysN, Function.comp_def, keyOfD]
    rw [ek]
    obtain ⟨a1, a2, a3⟩ := alike_nats l
    refine ⟨_, lstF_ow _, a1, a2, a3, ?_⟩
    obtain ⟨l', e1, e2, e3⟩ := sortD_nat l h1
    rw [e1]
    have h4 : ∀ k ∈ l', k < w.ks.length := fun k hk => h2 k (e2.subset hk)
    have h5 : l'.length ≤ 10 := by rw [e2.length_eq]; omega
    clear e1 e2 a1 a2 a3 ek
    refine forGo_pre encN (fun p k => p ++ [k]) (fun p γ => ∃ (as : List Ask) (c9 c10 c11 : Cell), γ = [.deck, worldF w, .im (encS s), .im (.int m), .im (encSt st), .dk (keysN l) c, .im (.int lo), .ow ((as.map encA).map .im), c8, c9, c10, c11, .un] ∧ as.map (·.1) = p.map (fun k => w.ks.getD k ([], [])) ∧ (∀ a ∈ as, WordsOk a.2) ∧ meets s as = true) [] l' _ ⟨[], _, _, _, rfl, rfl, (fun _ z => nomatch z), rfl⟩ ?_ ?_
    · rintro pre k rest ep γ ⟨as, c9, c10, c11, rfl, g1, g2, g3⟩ nx hn
      have hp : ∀ l : List Nat, l.foldl (fun p d => p ++ [d]) [] = l := by
        intro l
        have : ∀ (l m : List Nat), l.foldl (fun p d => p ++ [d]) m = m ++ l := by
          intro l
          induction l with
          | nil => simp
          | cons x l ih => intro m; simp [ih]
        simpa using this l []
      rw [hp] at g1 hn
      have hk : k < w.ks.length := h4 k (by rw [ep]; simp)
      have hsz : as.length ≤ 10 := by
        have := congrArg List.length g1
        have := congrArg List.length ep
        simp at *
        omega
      have hwt := hok.wet k hk
      have hdr := hok.dry k hk
      have tail : ∀ (x : Str), x = standing s w.ks[k] → ∀ ys : List Str, WordsOk ys → x ∈ ys → ∃ c_1 : Cell, (∃ a, atI (w.ks.map encK) (k : Int) = some a ∧ Cell.im a = c_1) ∧ c_1.flat = true ∧ ¬ Cell.ow ((ys.map PyData.str).map .im) = .un ∧ ∃ zs, seqF (.ow ((ys.map PyData.str).map .im)) = some zs ∧ ∃ ds, toDs [c_1, .im (.tuple zs)] = some ds ∧ ds.length ≤ sizeLine ∧ as.length < sizeLine ∧
          nx [.deck, .fk wkeys (wcells w), .im (encS s), .im (.int m), .im (.tuple [.int st.1, .int st.2]), .dk (keysN l) c, .im (.int lo), .ow (List.map (Cell.im ∘ encA) as ++ [Cell.im (.tuple ds)]), c8, .im (.int k), .im (.str x), .ow ((ys.map .str).map .im), .un] := by
        intro x hx ys h1 hin
        refine ⟨.im (encK w.ks[k]), ⟨encK w.ks[k], by rw [DL.atI_nat (by simpa using hk)]; simp, rfl⟩, rfl, by simp, ys.map .str, seqF_o, [encK w.ks[k], .tuple (ys.map .str)], by simp, by simp, lt_size (by omega), ?_⟩
        refine hn _ ⟨as ++ [(w.ks[k], ys)], .im (.int k), .im (.str x), .ow ((ys.map .str).map .im), by simp [encA, worldF, encSt], ?_, ?_, ?_⟩
        · simp [g1, List.getD_eq_getElem?_getD, hk]
        · intro a ma
          rcases List.mem_append.mp ma with ma | ma
          · exact g2 a ma
          · rw [List.mem_singleton] at ma
            subst ma
            exact h1
        · unfold meets at g3 ⊢
          rw [List.all_append, g3]
          simp [← hx, hin]
      simp [encSt, shr_nat, bit_at', worldF, encN]
      by_cases q1 : st.1.testBit k = true
      · rw [if_pos q1]
        exact words_go (by simp) (by simp [names3]) _ _ _ _ _ _ _ _ _ _ _ fun ys y1 y2 => tail _ (hwt.mp q1).symm ys y1 y2
      · rw [if_neg q1]
        by_cases q2 : st.2.testBit k = true
        · rw [if_pos q2]
          exact words_go (by simp) (by simp [names3]) _ _ _ _ _ _ _ _ _ _ _ fun ys y1 y2 => tail _ (hdr.mp q2).symm ys y1 y2
        · rw [if_neg q2]
          refine words_go (by simp) (by simp [names3]) _ _ _ _ _ _ _ _ _ _ _ fun ys y1 y2 => tail _ ?_ ys y1 y2
          unfold standing at hwt hdr ⊢
          cases q : s.reverse.find? fun d => reaches d w.ks[k] with
          | none => rfl
          | some d =>
            rw [q] at hwt hdr
            simp [stOf, left] at hwt hdr
            cases p : d.1
            · exact absurd (by rw [hdr, p]; rfl) q2
            · exact absurd (by rw [hwt, p]) q1
    · rintro γ ⟨as, c9, c10, c11, rfl, g1, g2, g3⟩
      have hp : ∀ l : List Nat, l.foldl (fun p d => p ++ [d]) [] = l := by
        intro l
        have : ∀ (l m : List Nat), l.foldl (fun p d => p ++ [d]) m = m ++ l := by
          intro l
          induction l with
          | nil => simp
          | cons x l ih => intro m; simp [ih]
        simpa using this l []
      rw [hp] at g1
      simp [-List.map_map]
      exact h as ⟨by rw [g1]; exact asc_items _ _ _ e3 h4, g2⟩ g3
  · rintro i rest γ ⟨l, c, c8, c9, rfl, h1, h2, h3⟩ nx hn
    simp at h3
    have put : ∀ k : Nat, k < w.ks.length → ∃ x, keyD (.int (k : Nat)) = some x ∧ (keysN l).Nodup ∧ (keysN l).length < sizeLine ∧ nx [.deck, .fk wkeys (wcells w), .im (encS s), .im (.int m), .im (.tuple [.int st.1, .int st.2]), .dk (putC (keysN l) c x (.im (.bool true))).1 (putC (keysN l) c x (.im (.bool true))).2, .im (.int lo), .ow [], .im (encN i), .im (.int k), .un, .un, .un] := fun k hk => by
      obtain ⟨c', e⟩ := keysN_put (l := l) k c (.im (.bool true))
      refine ⟨.inl (k : Nat), rfl, keysN_nodup h1, lt_size (by simp [keysN]; omega), ?_⟩
      rw [e]
      refine hn _ ⟨if k ∈ l then l else l ++ [k], c', _, _, rfl, ?_, ?_, ?_⟩
      · split
        · exact h1
        · rename_i hm
          exact List.nodup_append.mpr ⟨h1, by simp, fun a ha b hb e => by simp at hb; subst e; exact hm (hb ▸ ha)⟩
      · intro x hx
        split at hx
        · exact h2 x hx
        · rcases List.mem_append.mp hx with hx | hx
          · exact h2 x hx
          · simp at hx; omega
      · split
        · omega
        · simp; omega
    simp [worldF]
    refine draw_nat hpos (by omega) fun k hk => ?_
    simp [encSt, bor_nat, shr_nat, bit_at']
    split
    · refine draw_nat (k := 2) (by omega) (by omega) fun r hr => ?_
      refine ⟨_, rfl, by simp, by simp, ?_⟩
      split
      · refine draw_nat hpos (by omega) fun k hk => ?_
        simpa using put k hk
      · exact put k hk
    · exact put k hk
end L89
set_option maxHeartbeats 1000000
namespace L89
open PySem PySem.Spec PyProof.Rows L2 DL
theorem fold_snoc {α : Type} (l : List α) : l.foldl (fun p d => p ++ [d]) [] = l := by
  have : ∀ (l m : List α), l.foldl (fun p d => p ++ [d]) m = m ++ l := by
    intro l
    induction l with
    | nil => simp
    | cons x l ih => intro m; simp [ih]
  simpa using this l []
def S_book : FS := fun cs K' => ∃ ns : List Nat, cs = [.deck, .ow ((nats ns).map .im)] ∧ 0 < ns.length ∧ ns.length ≤ 100 ∧ (∀ n ∈ ns, 1 ≤ n ∧ n ≤ 5) ∧ ∀ b : Bk, b.ok → K' (.im (encB b))
theorem m_book : Main (T__law_book S_pick S_draw) N__law_book S_book := by
  rintro cs K' ⟨ns, rfl, h1, h2, h3, h⟩
  simp [T__law_book, fzAll, -List.map_map]
  refine ⟨nats ns, .inr rfl, by simpa using h1, by simp; omega, fun d hd => ?_⟩
  obtain ⟨n, hn, rfl⟩ := List.mem_map.mp hd
  obtain ⟨n1, n5⟩ := h3 n hn
  refine draw_nat (k := 5) (by omega) (by omega) fun sh hsh => ?_
  simp [-List.map_map]
  refine ⟨by omega, forGo_pre encN (fun p a => p ++ [a]) (fun p γ => ∃ (ps : List (Nat × Nat)) (c5 : Cell), γ = [.deck, .im (.list (nats ns)), .im (.int n), .im (.int sh), .ow ((ps.map encP).map .im), c5, .un] ∧ (∀ q ∈ ps, q.1 < p.length ∧ q.2 < n ∧ q.1 ≠ q.2) ∧ ps.Pairwise (fun p q => lexP p q = true) ∧ ps.length ≤ p.length * n) [] (List.range n) _ ⟨[], _, rfl, (fun _ z => nomatch z), .nil, by simp⟩ ?_ ?_⟩
  · rintro pre a rest e γ ⟨ps, c5, rfl, g1, g2, g3⟩ nx hnx
    rw [fold_snoc] at g1 g3 hnx
    have ha : a = pre.length ∧ a < n := by
      have h1 : (List.range n)[pre.length]? = some a := by rw [e]; simp
      rw [List.getElem?_eq_some_iff] at h1
      obtain ⟨h1, h2⟩ := h1
      simp at h1 h2
      omega
    obtain ⟨rfl, ha⟩ := ha
    simp [encN, -List.map_map]
    refine ⟨by omega, compGo_sub encN (fun b => encP (pre.length, b)) (fun b => pre.length ≠ b) (fun _ => False) (List.range n) (fun b hb K1 K0 k1 k0 => ?_) fun ys y1 y2 _ => ?_⟩
    · simp [encN]
      by_cases e2 : pre.length = b
      · exact .inl ⟨by omega, k0 (fun z => z)⟩
      · refine .inr ⟨by omega, draw_nat (k := 7) (by omega) (by omega) fun r hr => ⟨r, rfl, ?_⟩⟩
        split
        · exact k1 e2
        · exact k0 fun z => z
    · have hle : ys.length ≤ n := by have := y1.length_le; simpa using this
      have hm : pre.length * n ≤ 5 * 5 := Nat.mul_le_mul (by omega) n5
      refine ⟨_, rfl, by simp; exact le_size (by omega), hnx _ ⟨ps ++ ys.map fun b => (pre.length, b), .im (.int pre.length), by simp [Function.comp_def], ?_, ?_, ?_⟩⟩
      · intro q hq
        rcases List.mem_append.mp hq with hq | hq
        · have := g1 q hq
          simp; omega
        · obtain ⟨b, hb, rfl⟩ := List.mem_map.mp hq
          have := y1.subset hb
          have := y2 b hb
          simp at *
          omega
      · refine List.pairwise_append.mpr ⟨g2, List.pairwise_map.mpr ?_, fun p hp q hq => ?_⟩
        · have := List.pairwise_lt_range.sublist y1
          refine this.imp fun {x y} h => ?_
          simp [lexP, h]
        · obtain ⟨b, hb, rfl⟩ := List.mem_map.mp hq
          have := (g1 p hp).1
          have e : ¬ p.1 = pre.length := by omega
          simp [lexP, e, this]
      · simp [Nat.add_mul]; omega
  · rintro γ ⟨ps, c5, rfl, g1, g2, g3⟩
    rw [fold_snoc] at g1 g3
    simp [-List.map_map]
    exact h ⟨n, ps⟩ ⟨n1, n5, fun p m => by simpa using g1 p m, g2⟩
def S_deck : FS := fun cs K' => ∃ ns : List Int, ∃ sl : Int, cs = [.im (.list (ns.map .int)), .im (.int sl)] ∧ ns.length ≤ 63 ∧ ∀ (ms : List Int) (m : Int), ms.length ≤ 63 → K' (.dk [.inr dkn.1, .inr dkn.2.1, .inr dkn.2.2] [.ow ((ms.map PyData.int).map .im), .im (.int m), .im (.int 0)])
theorem m_deck : Main T__law_deck N__law_deck S_deck := by
  rintro cs K' ⟨ns, sl, rfl, h1, h⟩
  have ht : cut (ns.map PyData.int) none (some 63) = ns.map PyData.int := by
    rw [show (63 : Int) = ((63 : Nat) : Int) from rfl, cut_to, List.take_of_length_le (by simpa using h1)]
  simp [T__law_deck, -List.map_map]
  rw [ht]
  refine forGo_enc PyData.int (I := fun _ γ => ∃ (m : Int) (c3 : Cell), γ = [.im (.list (ns.map .int)), .im (.int sl), .im (.int m), c3]) ?_ ?_ ns _ ⟨_, _, rfl⟩
  · rintro γ ⟨m, c3, rfl⟩
    simp [-List.map_map]
    rw [ht]
    refine compGo_map PyData.int PyData.int ns (fun i hi K1 K0 hk => by simpa using hk) ?_
    simp [-List.map_map]
    have := h ns.reverse m (by simpa using h1)
    simpa using this
  · rintro i rest γ ⟨m, c3, rfl⟩ nx hn
    simp [-List.map_map]
    exact ⟨cmulR ⟨by decide, by decide⟩, hn _ ⟨_, _, rfl⟩⟩
end L89
namespace L89
open PySem PySem.Spec PyProof.Rows L2 DL
set_option maxHeartbeats 4000000
def S_things : FS := fun cs K' => ∃ (s : List Deed) (as : List Ask) (l : List (Nat × Nat)), cs = [.deck, caseF s as l] ∧ s.length ≤ 100 ∧ l.length ≤ 100000 ∧ (∀ p ∈ l, p.1 ≤ 1000 ∧ p.2 ≤ 1000) ∧ ∀ ds : List D, (∀ d ∈ ds, fit d = true) → ds.length ≤ 1000 → K' (.ow (ds.map .im))
theorem fit_all {xs ys : List D} (h1 : ∀ d ∈ xs, fit d = true) (h2 : ∀ d ∈ ys, fit d = true) : ∀ d ∈ xs ++ ys, fit d = true := fun d m => (List.mem_append.mp m).elim (h1 d) (h2 d)
theorem fit_3 {x : Str} {a b : D} (hx : PyData.strOk x = true) (ha : fit a = true) (hb : fit b = true) (da : PyData.depth a ≤ 5) (db : PyData.depth b ≤ 5) : fit (.tuple [.str x, a, b]) = true := by
  simp [fit, okD, okDs, hx] at ha hb ⊢
  simp_all
  omega
theorem fit_int (i : Int) : fit (.int i) = true := by simp [fit, okD]
def T_tend : XS := (sSeq (sIf (tBl (x2 (cB0 fun i j => decide (i < j)) (xVarR 2) (xC (.int 6)))) (sFor (xRange1 (xCons (xVarR 2) xNil)) (gNm 5) (sExt 3 (xLC (xRange1 (xCons (x2 cAdd (xVarR 2) (xC (.int 2))) xNil)) (gNm 6) uYes (xTup (xCons (xC (.str ("echo" : Str))) (xCons (xVar 5) (xCons (xVar 6) xNil)))) [6]))) sNext) (sRetV 3))
theorem tend {K' : Cell → Prop} {s : List Deed} (h1 : s.length ≤ 100) (h : ∀ ds : List D, (∀ d ∈ ds, fit d = true) → ds.length ≤ 1000 → K' (.ow (ds.map .im))) (c1 : Cell) (ds : List D) (c4 c5 c6 : Cell) (hf : ∀ d ∈ ds, fit d = true) (hl : ds.length ≤ 100) : T_tend { nx := fun γ => K' (.im .none), rt := K' } [.deck, c1, .im (.int s.length), .ow (ds.map .im), c4, c5, c6] := by
  simp [T_tend, -List.map_map]
  by_cases q : (s.length : Int) < 6
  · rw [if_pos q]
    refine ⟨by omega, forGo_enc encN (I := fun rest γ => ∃ (ds : List D) (c4 c5 c6 : Cell), γ = [.deck, c1, .im (.int s.length), .ow (ds.map .im), c4, c5, c6] ∧ (∀ d ∈ ds, fit d = true) ∧ ds.length + rest.length * 8 ≤ 200) ?_ ?_ (List.range s.length) _ ⟨ds, _, _, _, rfl, hf, by simp; omega⟩⟩
    · rintro γ ⟨ds, c4, c5, c6, rfl, hf, hl⟩
      simp [-List.map_map]
      exact h ds hf (by simp at hl; omega)
    · rintro i rest γ ⟨ds, c4, c5, c6, rfl, hf, hl⟩ nx hn
      simp at hl
      simp [-List.map_map]
      refine ⟨by omega, by omega, ?_⟩
      rw [show ((s.length : Int) + 2).toNat = s.length + 2 by omega]
      refine compGo_map encN (fun a => .tuple [.str "echo", encN i, encN a]) (List.range (s.length + 2)) (fun a ha K1 K0 hk => by simpa [encN] using hk) ?_
      refine ⟨_, rfl, le_size (by simp; omega), hn _ ⟨ds ++ (List.range (s.length + 2)).map fun a => .tuple [.str "echo", encN i, encN a], c4, _, c6, by simp; rfl, fit_all hf fun d hd => ?_, by simp; omega⟩⟩
      obtain ⟨a, _, rfl⟩ := List.mem_map.mp hd
      exact fit_3 (by simp) (fit_int _) (fit_int _) (by simp [encN]) (by simp [encN])
  · rw [if_neg q]
    exact h ds hf (by omega)
theorem log_s (k : Nat) (hk : k ≤ 1000) : (k : Int).natAbs.log2 < 1920 := by
  rw [Int.natAbs_natCast]
  by_cases e : k = 0
  · subst e; decide
  · exact Nat.lt_of_lt_of_le ((Nat.log2_lt e).mpr (Nat.lt_of_le_of_lt hk (by decide : 1000 < 2 ^ 61))) (by decide)
theorem ext7 {A : XA} {c0 c1 c2 c4 c5 c6 : Cell} {ds es : List D} {E : XEnds} (h : EvA A [c0, c1, c2, .ow (ds.map .im), c4, c5, c6] es) (hf : ∀ d ∈ ds, fit d = true) (hf2 : ∀ d ∈ es, fit d = true) (hl : ds.length ≤ 100) (h2 : es.length ≤ 6)
    (nx : ∀ ds' : List D, (∀ d ∈ ds', fit d = true) → ds'.length ≤ ds.length + 6 → E.nx [c0, c1, c2, .ow (ds'.map .im), c4, c5, c6]) : sExt 3 (xLst A) E [c0, c1, c2, .ow (ds.map .im), c4, c5, c6] :=
  ev_ext h rfl (by omega) (by omega) (nx (ds ++ es) (fit_all hf hf2) (by simp; omega))
theorem m_things : Main (T__law_things S_draw S_pick) N__law_things S_things := by
  rintro cs K' ⟨s, as, l, rfl, h1, h2, h3, h⟩
  have hlay := shaped_prs l
  have tnd := @tend K' s h1 h
  unfold T__law_things
  show sSeq _ (sSeq _ (sSeq _ (sSeq _ T_tend))) _ _
  generalize T_tend = TE at tnd ⊢
  rw [sSeq]
  simp [-sSeq, caseF, -List.map_map]
  rw [sSeq]
  simp [-sSeq, -List.map_map]
  rw [sSeq]
  simp [-sSeq, -List.map_map, -sPar, -sApp, -sFor]
  rw [sFor]
  simp [-sSeq, -List.map_map, -sFor]
  refine forGo_enc encN (I := fun rest γ => ∃ (ds : List D) (c4 c5 c6 : Cell), γ = [.deck, .fk ckeys (ccells s as l), .im (.int s.length), .ow (ds.map .im), c4, c5, c6] ∧ (∀ d ∈ ds, fit d = true) ∧ ds.length + 2 * rest.length ≤ 20) ?_ ?_ (List.range 6) _ ⟨[.tuple [.str "firm"], .tuple [.str "firm", .tuple []], .tuple [.str "firm", .int 0, .int 1], .list [.str "firm"], .str "firm", .none, .tuple [], .tuple [.str "echo"]], _, _, _, rfl, by simp [fit, okD, okDs], by simp⟩
  · rintro γ ⟨ds, c4, c5, c6, rfl, hf, hl⟩
    simp only []
    rw [sSeq]
    simp [hlay, -List.map_map, -sSeq]
    cases l with
    | nil => exact .inl ⟨by simp, tnd _ _ _ _ _ hf (by simp at hl; omega)⟩
    | cons p l =>
      refine .inr ⟨by simp, ?_⟩
      rw [sSeq]
      simp [-sSeq, -List.map_map, -List.map_cons]
      refine ⟨(p :: l).map encP, .inr rfl, by simp, by simp at h2 ⊢; omega, fun d hd => ?_⟩
      obtain ⟨⟨i, a⟩, hp, rfl⟩ := List.mem_map.mp hd
      have ha := h3 _ hp
      simp only [] at ha
      refine ⟨_, rfl, [.int i, .int a], rfl, rfl, .int i, [.int a], rfl, .int a, [], rfl, rfl, ?_⟩
      simp at hl
      skip
      rw [sSeq]
      apply ext7
      · repeat (first | with_reducible exact ev_c | with_reducible exact ev_nil | ((with_reducible apply ev_var); rfl) | ((with_reducible apply ev_varR); rfl) | with_reducible apply ev_cons | with_reducible apply ev_tup | with_reducible apply ev_fz | with_reducible apply ev_add | with_reducible apply ev_i0 | with_reducible apply ev_neg | with_reducible apply ev_eqI | with_reducible apply ev_flat | (show List.length _ ≤ 1000; simp))
      · exact hf
      · simp [fit, okD, okDs, strOk_of]
      · omega
      · simp
      intro ds1 hf hl1
      simp only []
      rw [sSeq]
      apply ext7
      · repeat (first | with_reducible exact ev_c | with_reducible exact ev_nil | ((with_reducible apply ev_var); rfl) | ((with_reducible apply ev_varR); rfl) | with_reducible apply ev_cons | with_reducible apply ev_tup | with_reducible apply ev_fz | with_reducible apply ev_add | with_reducible apply ev_i0 | with_reducible apply ev_neg | with_reducible apply ev_eqI | with_reducible apply ev_flat | (show List.length _ ≤ 1000; simp))
      · exact hf
      · simp [fit, okD, okDs, strOk_of]
      · omega
      · simp
      intro ds2 hf hl2
      simp only []
      rw [sSeq]
      apply ext7
      · repeat (first | exact ev_str (ev_varR rfl) (log_s _ ha.1) | (first | with_reducible exact ev_c | with_reducible exact ev_nil | ((with_reducible apply ev_var); rfl) | ((with_reducible apply ev_varR); rfl) | with_reducible apply ev_cons | with_reducible apply ev_tup | with_reducible apply ev_fz | with_reducible apply ev_add | with_reducible apply ev_i0 | with_reducible apply ev_neg | with_reducible apply ev_eqI | with_reducible apply ev_flat | (show List.length _ ≤ 1000; simp)))
      · exact hf
      · simp [fit, okD, okDs, strOk_of]
      · omega
      · simp
      intro ds3 hf hl3
      simp only []
      apply ext7
      · repeat (first | with_reducible exact ev_c | with_reducible exact ev_nil | ((with_reducible apply ev_var); rfl) | ((with_reducible apply ev_varR); rfl) | with_reducible apply ev_cons | with_reducible apply ev_tup | with_reducible apply ev_fz | with_reducible apply ev_add | with_reducible apply ev_i0 | with_reducible apply ev_neg | with_reducible apply ev_eqI | with_reducible apply ev_flat | (show List.length _ ≤ 1000; simp))
      · exact hf
      · simp [fit, okD, okDs, strOk_of]
      · omega
      · simp
      intro ds4 hf hl4
      exact tnd _ _ _ _ _ hf (by omega)
  · rintro go rest γ ⟨ds, c4, c5, c6, rfl, hf, hl⟩ nx hn
    simp at hl
    simp [-List.map_map]
    rw [show ((s.length : Int) + 1) = ((s.length + 1 : Nat) : Int) by omega]
    refine draw_nat (by omega) (by omega) fun i hi => ?_
    rw [show ((s.length : Int) + 2) = ((s.length + 2 : Nat) : Int) by omega]
    refine draw_nat (by omega) (by omega) fun a ha => ?_
    simp [-List.map_map]
    refine ⟨lt_size (by omega), [.tuple [.str "echo", .int a, .int i], .tuple [.str "echo", .int i, .int i], .tuple [.str "echo", .int (-1), .int a], .tuple [.str "echo", .int i, .int ((s.length : Int) + 1)]], .inl rfl, by simp, by simp, fun d hd => ⟨lt_size (by omega), hn _ ⟨ds ++ [.tuple [.str "echo", .int i, .int a], d], .im (encN go), .im (.int i), .im (.int a), by simp, fit_all hf ?_, by simp; omega⟩⟩⟩
    simp at hd ⊢
    refine ⟨fit_3 (by simp) (fit_int _) (fit_int _) (by simp) (by simp), ?_⟩
    rcases hd with rfl | rfl | rfl | rfl <;> exact fit_3 (by simp) (fit_int _) (fit_int _) (by simp) (by simp)
end L89
set_option maxHeartbeats 1000000
namespace L89
open PySem PySem.Spec PyProof.Rows L2 DL
open PySem.W (alike alikeAll AllAlike Sortable)
def w_0 : XS := (sPar [1, 2, 3, 4] (xCons (xFlat (xIx (xVarR 0) (xC (.int 0)))) (xCons (xLst xNil) (xCons (xLst xNil) (xCons xDNewT xNil)))))
def w_1 : XS := (sSet 5 (xLC (xRange1 (xCons (xVarR 1) xNil)) (gNm 7) uYes (xLC (xRange1 (xCons (xVarR 1) xNil)) (gNm 15) uYes (xOr (x2 cEq (xVarR 7) (xVarR 15)) (x2 (cIn false) (xTup (xCons (xVar 7) (xCons (xVar 15) xNil))) (xIx (xVarR 0) (xC (.int 1))))) [15]) [7]))
def w_2 : XS := (sFor (xRange1 (xCons (xVarR 1) xNil)) (gNm 6) (sFor (xRange1 (xCons (xVarR 1) xNil)) (gNm 7) (sIf (tTru (xIx (xIx (xVarR 5) (xVarR 7)) (xVarR 6))) (sSetIx 5 (xVarR 7) (xLC (xZip (xCons (xIx (xVarR 5) (xVarR 7)) (xCons (xIx (xVarR 5) (xVarR 6)) xNil))) (gTp 2 (gC (gNm 13) (gC (gNm 16) gN0))) uYes (xOr (xVar 13) (xVar 16)) [13, 16])) sNext)))
def w_3 : XS := (sSet 8 (xLC (xRange1 (xCons (xVarR 1) xNil)) (gNm 13) uYes (xCB cTup (xCons (xLC (xRange1 (xCons (xVarR 1) xNil)) (gNm 7) (tTru (xIx (xIx (xVarR 5) (xVarR 7)) (xVarR 13))) (xVar 7) [7]) xNil)) [13]))
def w_4 : XS := (sSet 9 (xLC (xRange1 (xCons (xVarR 1) xNil)) (gNm 13) uYes (xCB cTup (xCons (xLC (xRange1 (xCons (xVarR 1) xNil)) (gNm 15) (tTru (xIx (xIx (xVarR 5) (xVarR 13)) (xVarR 15))) (xVar 15) [15]) xNil)) [13]))
def w_5 : XS := (sFor (xRange1 (xCons (x2 (cI CPow fun i j => i * 2 ^ j.toNat) (xC (.int 1)) (xVarR 1)) xNil)) (gNm 10) (sSeq (sSet 11 (xCB cTup (xCons (xLC (xRange1 (xCons (xVarR 1) xNil)) (gNm 13) (tTru (x2 (cI0 Builtin.bitAnd) (x2 (cI (fun _ j => 0 ≤ j) fun i j => i / 2 ^ j.toNat) (xVarR 10) (xVarR 13)) (xC (.int 1)))) (xVar 13) [13]) xNil))) (sIf (tBl (x2 cEq (xLC (xSeq (xVarR 11)) (gNm 13) (tBl (x2 cNe (xLC (xSeq (xIx (xVarR 8) (xVarR 13))) (gNm 7) (tBl (x2 (cIn true) (xVarR 7) (xVarR 11))) (xC (.int 1)) [7]) (xLst xNil))) (xC (.int 1)) [13]) (xLst xNil))) (sApp 3 (xVar 11)) sNext)))
def w_6 : XS := (sFz [3] (sFor (xSeq (xVar 3)) (gNm 12) (sExt 2 (xLC (xSeq (xVarR 3)) (gNm 11) uYes (xTup (xCons (xVar 12) (xCons (xCB cTup (xCons (xLC (xRange1 (xCons (xVarR 1) xNil)) (gNm 13) (tBl (x2 (cIn true) (xVarR 13) (xVarR 11))) (xVar 13) [13]) xNil)) xNil))) [11]))))
def w_7 : XS := (sSet 2 (xCB cSorted (xCons (xVarR 2) xNil)))
def w_8 : XS := (sFor (xRange1 (xCons (xVarR 1) xNil)) (gNm 13) (sSeq (sDPutT 4 (xCons (xC (.str ("pour" : Str))) (xCons (xVar 13) xNil)) (xCB cSum (xCons (xLC (xEnum (xCons (xVarR 2) xNil)) (gTp 2 (gC (gNm 17) (gC (gNm 18) gN0))) (tBl (x2 (cIn false) (xVarR 13) (xIx (xVarR 18) (xC (.int 1))))) (x2 (cI CPow fun i j => i * 2 ^ j.toNat) (xC (.int 1)) (xVarR 17)) [17, 18]) xNil))) (sDPutT 4 (xCons (xC (.str ("open" : Str))) (xCons (xVar 13) xNil)) (xCB cSum (xCons (xLC (xEnum (xCons (xVarR 2) xNil)) (gTp 2 (gC (gNm 17) (gC (gNm 18) gN0))) (tBl (x2 (cIn false) (xVarR 13) (xIx (xVarR 18) (xC (.int 0))))) (x2 (cI CPow fun i j => i * 2 ^ j.toNat) (xC (.int 1)) (xVarR 17)) [17, 18]) xNil)))))
def w_9 : XS := (sSet 14 (xLC (xRange1 (xCons (xVarR 1) xNil)) (gNm 13) uYes (xCB cMinL (xCons (xLC (xSeq (xIx (xVarR 8) (xVarR 13))) (gNm 7) (tBl (x2 (cIn false) (xVarR 7) (xIx (xVarR 9) (xVarR 13)))) (xVar 7) [7]) xNil)) [13]))
def w_10 : XS := (sFz [2, 4, 8, 9, 14] (sRet (xDisp [(("book" : Str), (xVar 0)), (("n" : Str), (xVar 1)), (("kinds" : Str), (xVar 2)), (("reach" : Str), (xVar 4)), (("downs" : Str), (xVar 8)), (("ups" : Str), (xVar 9)), (("least" : Str), (xVar 14))])))
theorem w__eq : T__law_world = (sSeq (w_0) (sSeq (w_1) (sSeq (w_2) (sSeq (w_3) (sSeq (w_4) (sSeq (w_5) (sSeq (w_6) (sSeq (w_7) (sSeq (w_8) (sSeq (w_9) w_10)))))))))) := rfl
theorem compGo_mapC {α : Type} (enc : α → D) (g : α → Cell) {G : XG} {U : XT} {T : XE} {γ : List Cell} {K : Cell → Prop} (xs : List α) (h : ∀ x ∈ xs, ∀ (K1 : Cell → Prop) (K0 : Prop), K1 (g x) → G (enc x) γ fun γ2 => U γ2 fun b => if b = true then T γ2 K1 else K0)
    (hk : K (.ow (xs.map g))) : compGo G U T γ K (xs.map enc) [] := by
  have key : ∀ (xs : List α) (acc : List Cell), (∀ x ∈ xs, ∀ (K1 : Cell → Prop) (K0 : Prop), K1 (g x) → G (enc x) γ fun γ2 => U γ2 fun b => if b = true then T γ2 K1 else K0) → K (.ow (acc ++ xs.map g)) → compGo G U T γ K (xs.map enc) acc := by
    intro xs
    induction xs with
    | nil => intro acc _ hk; simpa [compGo] using hk
    | cons x xs ih =>
      intro acc h hk
      refine h x List.mem_cons_self _ _ ?_
      exact ih _ (fun y m => h y (List.mem_cons_of_mem _ m)) (by simpa using hk)
  exact key xs [] h (by simpa using hk)
def rowC (n : Nat) (f : Nat → Bool) : Cell := .ow (((List.range n).map fun c => PyData.bool (f c)).map .im)
def nearC (n : Nat) (f : Nat → Nat → Bool) : Cell := .ow ((List.range n).map fun a => rowC n (f a))
def f0 (b : Bk) (a c : Nat) : Bool := decide (a = c) || decide ((a, c) ∈ b.ps)
section
variable {b : Bk} {E : XEnds} {c2 c3 c4 c5 c6 c7 c8 c9 c10 c11 c12 c13 c14 c15 c16 c17 c18 : Cell}
theorem ix_ps : ixC (.im (encB b)) (.im (.int 1)) = some (.im (.tuple (b.ps.map encP))) := by simp [encB]
theorem w1_ok (hn : b.n ≤ 5) (h : E.nx [.im (encB b), .im (.int b.n), c2, c3, c4, nearC b.n (f0 b), c6, c7, c8, c9, c10, c11, c12, c13, c14, c15, c16, c17, c18]) :
    w_1 E [.im (encB b), .im (.int b.n), c2, c3, c4, c5, c6, c7, c8, c9, c10, c11, c12, c13, c14, c15, c16, c17, c18] := by
  have hlay := shaped_prs b.ps
  simp [w_1]
  refine ⟨by omega, compGo_mapC encN (fun a => rowC b.n (f0 b a)) (List.range b.n) (fun a ha K1 K0 hk => ?_) h⟩
  simp [encN]
  refine ⟨by omega, compGo_map encN (fun c => .bool (f0 b a c)) (List.range b.n) (fun c hc K1 K0 hk => ?_) ?_⟩
  · simp [encN]
    by_cases e : a = c
    · subst e
      rw [if_pos rfl]
      simpa [f0] using hk
    · rw [if_neg (by omega)]
      refine ⟨_, ix_ps, _, rfl, hlay.1, hlay.2, ?_⟩
      rw [any_prs]
      simpa [f0, e] using hk
  · simpa [rowC] using hk
/-- what the rows keep -/
def NearOk (b : Bk) (f : Nat → Nat → Bool) : Prop := (∀ a, f a a = true) ∧ ∀ p ∈ b.ps, f p.1 p.2 = true
@[simp] theorem near_ne {n : Nat} {f : Nat → Nat → Bool} : (nearC n f = .un) = False := by simp [nearC]
@[simp] theorem row_ne {n : Nat} {f : Nat → Bool} : (rowC n f = .un) = False := by simp [rowC]
theorem near_at {n : Nat} {f : Nat → Nat → Bool} {a : Nat} (h : a < n) : ixC (nearC n f) (.im (.int (a : Nat))) = some (rowC n (f a)) := by
  unfold nearC
  simp
  rw [DL.atI_nat (by simpa using h)]
  simp
theorem row_at {n : Nat} {f : Nat → Bool} {a : Nat} (h : a < n) : ixC (rowC n f) (.im (.int (a : Nat))) = some (.im (.bool (f a))) := by
  unfold rowC
  simp
  rw [DL.atI_nat (by simpa using h)]
  simp
theorem row_seq {n : Nat} {f : Nat → Bool} : seqF (rowC n f) = some ((List.range n).map fun c => PyData.bool (f c)) := seqF_o
theorem near_set {n : Nat} {f : Nat → Nat → Bool} {a : Nat} {g : Nat → Bool} : ((List.range n).map fun a => rowC n (f a)).set a (rowC n g) = (List.range n).map fun x => rowC n (if x = a then g else f x) := by
  apply List.ext_getElem
  · simp
  · intro i h1 h2
    simp [List.getElem_set]
    by_cases e : a = i
    · subst e; simp
    · have : ¬ i = a := fun z => e z.symm
      simp [e, this]
theorem w2_ok (hn : b.n ≤ 5) {f : Nat → Nat → Bool} (hf : NearOk b f) (h : ∀ (f : Nat → Nat → Bool) (c6 c7 : Cell), NearOk b f → E.nx [.im (encB b), .im (.int b.n), c2, c3, c4, nearC b.n f, c6, c7, c8, c9, c10, c11, c12, c13, c14, c15, c16, c17, c18]) :
    w_2 E [.im (encB b), .im (.int b.n), c2, c3, c4, nearC b.n f, c6, c7, c8, c9, c10, c11, c12, c13, c14, c15, c16, c17, c18] := by
  simp [w_2]
  refine ⟨by omega, forGo_inv encN (fun γ => ∃ f c6 c7, NearOk b f ∧ γ = [.im (encB b), .im (.int b.n), c2, c3, c4, nearC b.n f, c6, c7, c8, c9, c10, c11, c12, c13, c14, c15, c16, c17, c18]) (List.range b.n) _ ⟨f, _, _, hf, rfl⟩ ?_ ?_⟩
  · rintro m hm γ ⟨f, c6, c7, hf, rfl⟩ nx hnx
    have hm' : m < b.n := by simpa using hm
    simp [encN]
    refine ⟨by omega, forGo_inv encN (fun γ => ∃ f c7, NearOk b f ∧ γ = [.im (encB b), .im (.int b.n), c2, c3, c4, nearC b.n f, .im (.int m), c7, c8, c9, c10, c11, c12, c13, c14, c15, c16, c17, c18]) (List.range b.n) _ ⟨f, _, hf, rfl⟩ ?_ ?_⟩
    · rintro a ha γ ⟨f, c7, hf, rfl⟩ nx hnx
      have ha' : a < b.n := by simpa using ha
      simp [encN, near_at ha', near_at hm', row_at hm', row_seq, zipD_map, zip_self', -List.map_map]
      cases e : f a m
      · exact .inl ⟨rfl, hnx _ ⟨f, _, hf, rfl⟩⟩
      · refine .inr ⟨rfl, ?_⟩
        rw [List.map_map]
        refine compGo_map _ (fun c => .bool (f a c || f m c)) (List.range b.n) (fun c hc K1 K0 hk => ?_) ⟨_, rfl, a, ixN_nat (by simpa using ha'), ?_⟩
        · simp
          cases e1 : f a c <;> simpa [e1] using hk
        · rw [show (((List.range b.n).map fun c => PyData.bool (f a c || f m c)).map .im : List Cell) = ((List.range b.n).map fun c => PyData.bool ((fun c => f a c || f m c) c)).map .im from rfl]
          have := near_set (n := b.n) (f := f) (a := a) (g := fun c => f a c || f m c)
          unfold rowC at this
          unfold rowC
          rw [this]
          refine hnx _ ⟨fun x => if x = a then fun c => f a c || f m c else f x, _, ⟨fun x => ?_, fun p hp => ?_⟩, rfl⟩
          · simp only []
            split
            · rename_i e; subst e; simp [hf.1]
            · exact hf.1 x
          · have := hf.2 p hp
            simp only []
            split
            · rename_i e
              show (f a p.2 || f m p.2) = true
              rw [← e, this]; rfl
            · exact this
    · rintro γ ⟨f, c7, hf, rfl⟩
      exact hnx _ ⟨f, _, _, hf, rfl⟩
  · rintro γ ⟨f, c6, c7, hf, rfl⟩
    exact h f _ _ hf
def dnL (n : Nat) (f : Nat → Nat → Bool) (x : Nat) : List Nat := (List.range n).filter fun a => f a x
def upL (n : Nat) (f : Nat → Nat → Bool) (x : Nat) : List Nat := (List.range n).filter fun c => f x c
def dnD (n : Nat) (f : Nat → Nat → Bool) : List D := (List.range n).map fun x => encL (dnL n f x)
def upD (n : Nat) (f : Nat → Nat → Bool) : List D := (List.range n).map fun x => encL (upL n f x)
theorem w3_ok (hn : b.n ≤ 5) {f : Nat → Nat → Bool} (h : E.nx [.im (encB b), .im (.int b.n), c2, c3, c4, nearC b.n f, c6, c7, .ow ((dnD b.n f).map .im), c9, c10, c11, c12, c13, c14, c15, c16, c17, c18]) :
    w_3 E [.im (encB b), .im (.int b.n), c2, c3, c4, nearC b.n f, c6, c7, c8, c9, c10, c11, c12, c13, c14, c15, c16, c17, c18] := by
  simp [w_3]
  refine ⟨by omega, compGo_map encN (fun x => encL (dnL b.n f x)) (List.range b.n) (fun x hx K1 K0 hk => ?_) h⟩
  have hx' : x < b.n := by simpa using hx
  simp [encN]
  refine ⟨by omega, compGo_fm encN (fun a => f a x) encN (List.range b.n) (fun a ha K1 K0 k1 k0 => ?_) ⟨_, seqF_o, hk⟩⟩
  have ha' : a < b.n := by simpa using ha
  simp [encN, near_at ha', row_at hx']
  cases e : f a x
  · simpa using k0 e
  · simpa [encN] using k1 e
theorem w4_ok (hn : b.n ≤ 5) {f : Nat → Nat → Bool} (h : E.nx [.im (encB b), .im (.int b.n), c2, c3, c4, nearC b.n f, c6, c7, c8, .ow ((upD b.n f).map .im), c10, c11, c12, c13, c14, c15, c16, c17, c18]) :
    w_4 E [.im (encB b), .im (.int b.n), c2, c3, c4, nearC b.n f, c6, c7, c8, c9, c10, c11, c12, c13, c14, c15, c16, c17, c18] := by
  simp [w_4]
  refine ⟨by omega, compGo_map encN (fun x => encL (upL b.n f x)) (List.range b.n) (fun x hx K1 K0 hk => ?_) h⟩
  have hx' : x < b.n := by simpa using hx
  simp [encN]
  refine ⟨by omega, compGo_fm encN (fun a => f x a) encN (List.range b.n) (fun a ha K1 K0 k1 k0 => ?_) ⟨_, seqF_o, hk⟩⟩
  have ha' : a < b.n := by simpa using ha
  simp [encN, near_at hx', row_at ha']
  cases e : f x a
  · simpa using k0 e
  · simpa [encN] using k1 e
theorem layN (l : List Nat) : PyData.canLayAll0 (l.map encN) = true ∧ PyData.depthAll (l.map encN) ≤ 63 := ⟨layAll_nat l, by
  have := depAll_nat l
  show PyData.depthAll (l.map fun x => PyData.int (x : Nat)) ≤ 63
  omega⟩
def lotOf (n m : Nat) : List Nat := (List.range n).filter fun x => m.testBit x
def lotOk (n : Nat) (f : Nat → Nat → Bool) (m : Nat) : Bool := ((lotOf n m).filter fun x => !((dnL n f x).filter fun a => !decide (a ∈ lotOf n m)).isEmpty).isEmpty
def lotsL (n : Nat) (f : Nat → Nat → Bool) : List (List Nat) := ((List.range (2 ^ n)).filter (lotOk n f)).map (lotOf n)
theorem dn_at {n : Nat} {f : Nat → Nat → Bool} {x : Nat} (h : x < n) : ixC (.ow ((dnD n f).map .im)) (.im (.int (x : Nat))) = some (.im (encL (dnL n f x))) := by
  simp [-List.map_map]
  rw [DL.atI_nat (by simpa [dnD] using h)]
  simp [dnD]
theorem w5_ok (hn : b.n ≤ 5) {f : Nat → Nat → Bool} (h : ∀ c7 c10 c11, E.nx [.im (encB b), .im (.int b.n), c2, .ow (((lotsL b.n f).map encL).map .im), c4, c5, c6, c7, .ow ((dnD b.n f).map .im), c9, c10, c11, c12, c13, c14, c15, c16, c17, c18]) :
    w_5 E [.im (encB b), .im (.int b.n), c2, .ow [], c4, c5, c6, c7, .ow ((dnD b.n f).map .im), c9, c10, c11, c12, c13, c14, c15, c16, c17, c18] := by
  have h32 : 2 ^ b.n ≤ 2 ^ 5 := Nat.pow_le_pow_right (by decide) hn
  simp [w_5, -List.map_map]
  have hp : (2 : Int) ^ b.n = ((2 ^ b.n : Nat) : Int) := by simp
  obtain ⟨N, hN⟩ : ∃ N, N = 2 ^ b.n := ⟨_, rfl⟩
  rw [hp, ← hN]
  rw [← hN] at h32
  refine ⟨cpow_one _ (by omega), by omega, by omega, ?_⟩
  rw [Int.toNat_natCast]
  refine forGo_enc encN (I := fun rest γ => ∃ (L : List (List Nat)) (c7 c10 c11 : Cell), γ = [.im (encB b), .im (.int b.n), c2, .ow ((L.map encL).map .im), c4, c5, c6, c7, .ow ((dnD b.n f).map .im), c9, c10, c11, c12, c13, c14, c15, c16, c17, c18] ∧ L.length + rest.length ≤ 32 ∧ L ++ (rest.filter (lotOk b.n f)).map (lotOf b.n) = lotsL b.n f) ?_ ?_ (List.range N) _ ⟨[], _, _, _, rfl, by simpa using h32, by rw [hN]; rfl⟩
  · rintro γ ⟨L, c7, c10, c11, rfl, hl, e⟩
    simp at e
    subst e
    exact h _ _ _
  · rintro m rest γ ⟨L, c7, c10, c11, rfl, hl, e⟩ nx hnx
    simp at hl
    simp [encN, -List.map_map]
    refine ⟨by omega, compGo_fm encN (fun x => m.testBit x) encN (List.range b.n) (fun x hx K1 K0 k1 k0 => ?_) ⟨_, seqF_o, ?_⟩⟩
    · simp [encN, bit_at']
      cases e : m.testBit x
      · simpa using k0 e
      · simpa [encN] using k1 e
    · have el : ((List.range b.n).filter fun x => m.testBit x) = lotOf b.n m := rfl
      rw [el]
      refine compGo_fm encN (fun x => !((dnL b.n f x).filter fun a => !decide (a ∈ lotOf b.n m)).isEmpty) (fun _ => .int 1) (lotOf b.n m) (fun x hx K1 K0 k1 k0 => ?_) ?_
      · have hx' : x < b.n := by unfold lotOf at hx; simpa using (List.mem_filter.mp hx).1
        simp [encN, dn_at hx', -ixC_o]
        refine ⟨_, rfl, compGo_fm encN (fun a => !decide (a ∈ lotOf b.n m)) (fun _ => .int 1) (dnL b.n f x) (fun a ha K1 K0 k1 k0 => ?_) ?_⟩
        · simp [encN]
          refine ⟨(layN _).1, (layN _).2, ?_⟩
          by_cases q : a ∈ lotOf b.n m
          · exact .inl ⟨⟨_, ⟨a, q, rfl⟩, by simp⟩, k0 (by simp [q])⟩
          · exact .inr ⟨fun z hz r => q (by rw [show a = z by omega]; exact hz), k1 (by simp [q])⟩
        · exact ones_or _ (fun z => k0 (by rw [z]; rfl)) fun z => k1 (by rw [List.isEmpty_eq_false_iff.mpr z]; rfl)
      · have hok : (List.filter (fun x => !(List.filter (fun a => !decide (a ∈ lotOf b.n m)) (dnL b.n f x)).isEmpty) (lotOf b.n m)).isEmpty = lotOk b.n f m := rfl
        obtain ⟨d, d1, d2, d3, d4⟩ := ones (List.filter (fun x => !(List.filter (fun a => !decide (a ∈ lotOf b.n m)) (dnL b.n f x)).isEmpty) (lotOf b.n m))
        refine ⟨d, d1, d2, d3, ?_⟩
        rw [d4, hok]
        cases q : lotOk b.n f m with
        | true =>
          rw [if_pos rfl]
          refine ⟨lt_size (by omega), hnx _ ⟨L ++ [lotOf b.n m], c7, _, _, by simp [encL, encN]; exact ⟨rfl, rfl⟩, by simp; omega, ?_⟩⟩
          rw [← e]
          simp [q]
        | false =>
          rw [if_neg (by decide)]
          refine hnx _ ⟨L, c7, _, _, rfl, by omega, ?_⟩
          rw [← e]
          simp [q]
end
end L89
set_option maxHeartbeats 1000000
namespace L89
open PySem PySem.Spec PyProof.Rows L2 DL
open PySem.W (alike alikeAll AllAlike Sortable)
theorem lotOf_mem {n m x : Nat} : x ∈ lotOf n m ↔ x < n ∧ m.testBit x = true := by unfold lotOf; simp
theorem lotOf_ok (n m : Nat) : LotOk n (lotOf n m) := ⟨List.pairwise_lt_range.sublist List.filter_sublist, fun x h => (lotOf_mem.mp h).1⟩
theorem lotOf_inj {n m m' : Nat} (h1 : m < 2 ^ n) (h2 : m' < 2 ^ n) (h : ∀ x, x < n → (x ∈ lotOf n m ↔ x ∈ lotOf n m')) : m = m' := by
  apply Nat.eq_of_testBit_eq
  intro i
  by_cases hi : i < n
  · have := h i hi
    rw [lotOf_mem, lotOf_mem] at this
    cases e1 : m.testBit i <;> cases e2 : m'.testBit i <;> simp_all
  · have p1 : m < 2 ^ i := Nat.lt_of_lt_of_le h1 (Nat.pow_le_pow_right (by decide) (by omega))
    have p2 : m' < 2 ^ i := Nat.lt_of_lt_of_le h2 (Nat.pow_le_pow_right (by decide) (by omega))
    rw [Nat.testBit_lt_two_pow p1, Nat.testBit_lt_two_pow p2]
theorem lots_mem {n : Nat} {f : Nat → Nat → Bool} {l : List Nat} : l ∈ lotsL n f ↔ ∃ m, m < 2 ^ n ∧ lotOk n f m = true ∧ l = lotOf n m := by
  unfold lotsL
  simp only [List.mem_map, List.mem_filter, List.mem_range]
  constructor
  · rintro ⟨m, ⟨h1, h2⟩, rfl⟩; exact ⟨m, h1, h2, rfl⟩
  · rintro ⟨m, h1, h2, rfl⟩; exact ⟨m, ⟨h1, h2⟩, rfl⟩
theorem lots_ok {n : Nat} {f : Nat → Nat → Bool} {l : List Nat} (h : l ∈ lotsL n f) : LotOk n l ∧ ∀ x ∈ l, ∀ a, a < n → f a x = true → a ∈ l := by
  obtain ⟨m, h1, h2, rfl⟩ := lots_mem.mp h
  refine ⟨lotOf_ok n m, fun x hx a ha hf => ?_⟩
  unfold lotOk at h2
  rw [List.isEmpty_iff, List.filter_eq_nil_iff] at h2
  have := h2 x hx
  simp only [Bool.not_eq_true', Bool.not_eq_false, List.isEmpty_iff, List.filter_eq_nil_iff] at this
  have := this a (by unfold dnL; simp [ha, hf])
  simpa using this
theorem lots_apart {n : Nat} {f : Nat → Nat → Bool} : (lotsL n f).Pairwise fun l l' => ∃ x, x < n ∧ ¬ (x ∈ l ↔ x ∈ l') := by
  unfold lotsL
  refine List.pairwise_map.mpr ?_
  have h : ((List.range (2 ^ n)).filter (lotOk n f)).Pairwise fun a b => a ≠ b ∧ a < 2 ^ n ∧ b < 2 ^ n := by
    have s : ((List.range (2 ^ n)).filter (lotOk n f)).Pairwise (· < ·) := List.pairwise_lt_range.sublist List.filter_sublist
    refine List.Pairwise.imp_of_mem ?_ s
    intro a b ma mb hab
    have h1 := (List.mem_filter.mp ma).1
    have h2 := (List.mem_filter.mp mb).1
    simp at h1 h2
    exact ⟨by omega, h1, h2⟩
  refine h.imp ?_
  rintro a b ⟨hne, ha, hb⟩
  apply Classical.byContradiction
  intro z
  apply hne
  refine lotOf_inj ha hb fun x hx => ?_
  exact Classical.byContradiction fun q => z ⟨x, hx, q⟩
theorem lots_nil (n : Nat) (f : Nat → Nat → Bool) : [] ∈ lotsL n f := by
  have e : lotOf n 0 = [] := by unfold lotOf; simp
  refine lots_mem.mpr ⟨0, Nat.two_pow_pos n, ?_, e.symm⟩
  unfold lotOk
  rw [e]; rfl
theorem lots_len {n : Nat} {f : Nat → Nat → Bool} (hn : n ≤ 5) : (lotsL n f).length ≤ 32 := by
  unfold lotsL
  rw [List.length_map]
  have h1 := List.length_filter_le (lotOk n f) (List.range (2 ^ n))
  have h2 : 2 ^ n ≤ 2 ^ 5 := Nat.pow_le_pow_right (by decide) hn
  rw [List.length_range] at h1
  omega
def compl (n : Nat) (l : List Nat) : List Nat := (List.range n).filter fun x => !decide (x ∈ l)
theorem compl_mem {n : Nat} {l : List Nat} {x : Nat} : x ∈ compl n l ↔ x < n ∧ x ∉ l := by unfold compl; simp
def kinds0 (n : Nat) (L : List (List Nat)) : List Kd := L.flatMap fun b => L.map fun l => (b, compl n l)
def kinds0' (n : Nat) (rest L : List (List Nat)) : List Kd := rest.flatMap fun b => L.map fun l => (b, compl n l)
theorem kinds0_nodup {n : Nat} {f : Nat → Nat → Bool} : (kinds0 n (lotsL n f)).Nodup := by
  unfold kinds0
  refine List.pairwise_flatMap.mpr ⟨fun b _ => ?_, ?_⟩
  · refine List.pairwise_map.mpr (lots_apart.imp ?_)
    rintro l l' ⟨x, hx, h⟩ e
    apply h
    have e2 : compl n l = compl n l' := (Prod.ext_iff.mp e).2
    have := @compl_mem n l x
    rw [e2, compl_mem] at this
    constructor
    · intro m; exact Classical.byContradiction fun q => (this.mp ⟨hx, q⟩).2 m
    · intro m; exact Classical.byContradiction fun q => (this.mpr ⟨hx, q⟩).2 m
  · refine lots_apart.imp ?_
    rintro b b' ⟨x, hx, h⟩ k hk k' hk' e
    obtain ⟨l, _, rfl⟩ := List.mem_map.mp hk
    obtain ⟨l', _, rfl⟩ := List.mem_map.mp hk'
    apply h
    have : b = b' := (Prod.ext_iff.mp e).1
    rw [this]
theorem kinds0_ok {b : Bk} {f : Nat → Nat → Bool} (hb : b.ok) (hf : NearOk b f) {k : Kd} (h : k ∈ kinds0 b.n (lotsL b.n f)) {C : Bk} (hC : Sound b C) : KindOk C k := by
  unfold kinds0 at h
  obtain ⟨w, hw, h⟩ := List.mem_flatMap.mp h
  obtain ⟨l, hl, rfl⟩ := List.mem_map.mp h
  have closed : ∀ l ∈ lotsL b.n f, ∀ a x, Tr b a x → x ∈ l → a ∈ l := fun l hl a x ht hx => by
    obtain ⟨h1, h2⟩ := lots_ok hl
    refine ht (fun a x => x ∈ l → a ∈ l) (fun _ z => z) (fun a b c p q z => p (q z)) (fun p hp z => ?_) hx
    exact h2 p.2 z p.1 (hb.2.2.1 p hp).1 (hf.2 p hp)
  refine ⟨⟨?_, fun a x hp hx => closed w hw a x (hC.2 _ hp).2.2 hx⟩, ?_, fun a x hp hx => ?_⟩
  · rw [hC.1]; exact (lots_ok hw).1
  · rw [hC.1]
    exact ⟨List.pairwise_lt_range.sublist List.filter_sublist, fun x hx => (compl_mem.mp hx).1⟩
  · have h1 := compl_mem.mp hx
    have h2 := hC.2 _ hp
    refine compl_mem.mpr ⟨h2.2.1, fun z => h1.2 ?_⟩
    exact closed l hl x a h2.2.2 z
theorem kinds0_len {n : Nat} {f : Nat → Nat → Bool} (hn : n ≤ 5) : (kinds0 n (lotsL n f)).length ≤ 1024 := by
  unfold kinds0
  have : ∀ (L M : List (List Nat)), (L.flatMap fun b => M.map fun l => (b, compl n l)).length = L.length * M.length := by
    intro L M
    induction L with
    | nil => simp
    | cons b L ih => rw [List.flatMap_cons, List.length_append, ih, List.length_map, List.length_cons, Nat.add_mul]; omega
  rw [this]
  exact Nat.mul_le_mul (lots_len hn) (lots_len hn)
theorem alike_encK (k l : Kd) : alike (encK k) (encK l) = true := by
  simp [encK, encL, alike, alikeAll, alikeAll_nat]
theorem ord_encK (k l : Kd) : ordB (encK k) (encK l) = true := by
  simp [encK, encL, ordB, ordBs, ordBs_nat]
def toN : D → Nat
  | .int i => i.toNat
  | _ => 0
def decK : D → Kd
  | .tuple [.tuple a, .tuple b] => (a.map toN, b.map toN)
  | _ => ([], [])
theorem toN_map (l : List Nat) : (l.map fun x => PyData.int (x : Nat)).map toN = l := by
  rw [List.map_map]
  conv => rhs; rw [← List.map_id l]
  refine List.map_congr_left fun x _ => ?_
  simp [toN]
theorem decK_enc (k : Kd) : decK (encK k) = k := by
  show ((k.1.map fun x => PyData.int (x : Nat)).map toN, (k.2.map fun x => PyData.int (x : Nat)).map toN) = k
  rw [toN_map, toN_map]
/-- sorted kinds -/
theorem sort_kinds {ks : List Kd} (nd : ks.Nodup) : AllAlike (ks.map encK) ∧ Sortable (ks.map encK) ∧ (∀ d ∈ ks.map encK, d.depth ≤ 60) ∧ ∃ ks' : List Kd, sortD (ks.map encK) = ks'.map encK ∧ ks'.Perm ks ∧ ks'.Pairwise ltK := by
  have ha : AllAlike (ks.map encK) := by
    intro d m d' m'
    obtain ⟨x, _, rfl⟩ := List.mem_map.mp m
    obtain ⟨y, _, rfl⟩ := List.mem_map.mp m'
    exact alike_encK x y
  refine ⟨ha, .inl fun d m => ?_, fun d m => ?_, ?_⟩
  · obtain ⟨x, _, rfl⟩ := List.mem_map.mp m
    exact ⟨_, _, rfl⟩
  · obtain ⟨x, _, rfl⟩ := List.mem_map.mp m
    simp
  obtain ⟨h1, h2⟩ := sortD_asc ha (List.pairwise_map.mpr (nd.imp fun {a b} h => by
    rw [eqv_encK, eqv_encK]
    exact ⟨by simpa using h, by simpa using fun z => h z.symm⟩))
  obtain ⟨ks', hk⟩ : ∃ ks' : List Kd, sortD (ks.map encK) = ks'.map encK := by
    have : ∀ ds : List D, (∀ d ∈ ds, ∃ x : Kd, d = encK x) → ∃ ks' : List Kd, ds = ks'.map encK := by
      intro ds
      induction ds with
      | nil => intro _; exact ⟨[], rfl⟩
      | cons d ds ih =>
        intro h
        obtain ⟨x, rfl⟩ := h d List.mem_cons_self
        obtain ⟨l', rfl⟩ := ih fun d m => h d (List.mem_cons_of_mem _ m)
        exact ⟨x :: l', rfl⟩
    refine this _ fun d m => ?_
    obtain ⟨x, _, rfl⟩ := List.mem_map.mp (h1.subset m)
    exact ⟨x, rfl⟩
  refine ⟨ks', hk, ?_, ?_⟩
  · rw [hk] at h1
    have := h1.map decK
    rw [List.map_map, List.map_map, show decK ∘ encK = id from funext fun k => decK_enc k, List.map_id, List.map_id] at this
    exact this
  · rw [hk] at h2
    refine (List.pairwise_map.mp h2).imp fun {a b} h => ?_
    rw [dataLt_ltB _ _ (alike_encK a b) (ord_encK a b)] at h
    exact ⟨ord_encK a b, h⟩
section
variable {b : Bk} {E : XEnds} {c2 c3 c4 c5 c6 c7 c8 c9 c10 c11 c12 c13 c14 c15 c16 c17 c18 : Cell}
theorem w6_ok (hn : b.n ≤ 5) {L : List (List Nat)} (hL : L.length ≤ 32) (h : ∀ c11 c12, E.nx [.im (encB b), .im (.int b.n), .ow (((kinds0 b.n L).map encK).map .im), .im (.list (L.map encL)), c4, c5, c6, c7, c8, c9, c10, c11, c12, c13, c14, c15, c16, c17, c18]) :
    w_6 E [.im (encB b), .im (.int b.n), .ow [], .ow ((L.map encL).map .im), c4, c5, c6, c7, c8, c9, c10, c11, c12, c13, c14, c15, c16, c17, c18] := by
  simp [w_6, fzAll, -List.map_map]
  refine forGo_enc encL (I := fun rest γ => ∃ (ks : List Kd) (c12 : Cell), γ = [.im (encB b), .im (.int b.n), .ow ((ks.map encK).map .im), .im (.list (L.map encL)), c4, c5, c6, c7, c8, c9, c10, c11, c12, c13, c14, c15, c16, c17, c18] ∧ ks.length + rest.length * 32 ≤ 1024 ∧ ks ++ kinds0' b.n rest L = kinds0 b.n L) ?_ ?_ L _ ⟨[], _, rfl, by simp; omega, rfl⟩
  · rintro γ ⟨ks, c12, rfl, hl, e⟩
    simp [kinds0'] at e
    subst e
    exact h _ _
  · rintro w rest γ ⟨ks, c12, rfl, hl, e⟩ nx hnx
    simp at hl
    simp [-List.map_map]
    refine compGo_map encL (fun l => encK (w, compl b.n l)) L (fun l hl K1 K0 hk => ?_) ⟨_, rfl, ?_, hnx _ ⟨ks ++ L.map fun l => (w, compl b.n l), _, by simp; rfl, ?_, ?_⟩⟩
    · simp [-List.map_map]
      refine ⟨by omega, compGo_fm encN (fun x => !decide (x ∈ l)) encN (List.range b.n) (fun x hx K1 K0 k1 k0 => ?_) ⟨_, seqF_o, hk⟩⟩
      have hly := layAll_nat l
      have hdp := depAll_nat l
      simp [encN, encL]
      by_cases q : x ∈ l
      · exact .inl ⟨⟨_, ⟨x, q, rfl⟩, by simp⟩, k0 (by simp [q])⟩
      · exact .inr ⟨fun z hz r => q (by rw [show x = z by omega]; exact hz), k1 (by simp [q])⟩
    · simp; exact Nat.le_trans (show ks.length + L.length ≤ 1100 by omega) (by decide)
    · simp; omega
    · rw [← e]
      simp [kinds0', kinds0]
theorem w7_ok {ks : List Kd} (nd : ks.Nodup) (h : ∀ ks' : List Kd, ks'.Perm ks → ks'.Pairwise ltK → E.nx [.im (encB b), .im (.int b.n), .ow ((ks'.map encK).map .im), c3, c4, c5, c6, c7, c8, c9, c10, c11, c12, c13, c14, c15, c16, c17, c18]) :
    w_7 E [.im (encB b), .im (.int b.n), .ow ((ks.map encK).map .im), c3, c4, c5, c6, c7, c8, c9, c10, c11, c12, c13, c14, c15, c16, c17, c18] := by
  obtain ⟨h1, h2, h3, ks', h4, h5, h6⟩ := sort_kinds nd
  simp [w_7, -List.map_map, -List.mem_map]
  refine ⟨h1, h2, h3, ?_⟩
  rw [h4]
  exact h ks' h5 h6
def toL : D → List D
  | .list xs => xs
  | _ => []
theorem up_at {n : Nat} {f : Nat → Nat → Bool} {x : Nat} (h : x < n) : ixC (.ow ((upD n f).map .im)) (.im (.int (x : Nat))) = some (.im (encL (upL n f x))) := by
  simp [-List.map_map]
  rw [DL.atI_nat (by simpa [upD] using h)]
  simp [upD]
theorem range_pre {n a : Nat} {pre rest : List Nat} (e : List.range n = pre ++ a :: rest) : a = pre.length ∧ a < n := by
  have h1 : (List.range n)[pre.length]? = some a := by rw [e]; simp
  rw [List.getElem?_eq_some_iff] at h1
  obtain ⟨h1, h2⟩ := h1
  simp at h1 h2
  omega
/-- the masks so far -/
structure RkOk (ks : List Kd) (m : Nat) (rk : List (List Key)) (rd : List D) : Prop where
  len : rk.length = rd.length
  nd : rk.Nodup
  sz : rk.length = 2 * m
  le : ∀ k ∈ rk, ∃ d : Deed, k = keyDd d ∧ d.2 < m
  get : ∀ d : Deed, d.2 < m → getK rk (rd.map .im) (keyDd d) = some (.im (.int (maskD ks d : Nat)))
theorem wd_inj {a c : Bool} (h : wd a = wd c) : a = c := by
  cases a <;> cases c <;> simp [wd] at h ⊢
theorem keyDd_inj {d e : Deed} (h : keyDd d = keyDd e) : d = e := by
  obtain ⟨a, x⟩ := d
  obtain ⟨c, y⟩ := e
  simp [keyDd] at h
  exact Prod.ext (wd_inj h.1) (by have := h.2; simp only []; omega)
theorem RkOk.put {ks : List Kd} {m : Nat} {rk : List (List Key)} {rd : List D} (h : RkOk ks m rk rd) :
    RkOk ks (m + 1) (rk ++ [keyDd (true, m)] ++ [keyDd (false, m)]) (rd ++ [.int (maskD ks (true, m) : Nat)] ++ [.int (maskD ks (false, m) : Nat)]) ∧ keyDd (true, m) ∉ rk ∧ keyDd (false, m) ∉ rk ++ [keyDd (true, m)] := by
  have n1 : ∀ w, keyDd (w, m) ∉ rk := fun w z => by
    obtain ⟨d, e, hd⟩ := h.le _ z
    have := keyDd_inj e
    subst this
    exact absurd hd (Nat.lt_irrefl _)
  have n2 : keyDd (false, m) ∉ rk ++ [keyDd (true, m)] := fun z => by
    rcases List.mem_append.mp z with z | z
    · exact n1 _ z
    · have := keyDd_inj (List.mem_singleton.mp z)
      cases this
  refine ⟨⟨by simp [h.len], ?_, by simp [h.sz]; omega, ?_, ?_⟩, n1 _, n2⟩
  · refine List.nodup_append.mpr ⟨List.nodup_append.mpr ⟨h.nd, by simp, fun a ha c hc e => ?_⟩, by simp, fun a ha c hc e => ?_⟩
    · rw [List.mem_singleton] at hc; subst hc; subst e; exact n1 _ ha
    · rw [List.mem_singleton] at hc; subst hc; subst e; exact n2 ha
  · intro k hk
    rcases List.mem_append.mp hk with hk | hk
    · rcases List.mem_append.mp hk with hk | hk
      · obtain ⟨d, e, hd⟩ := h.le k hk
        exact ⟨d, e, by omega⟩
      · exact ⟨_, List.mem_singleton.mp hk, by simp⟩
    · exact ⟨_, List.mem_singleton.mp hk, by simp⟩
  · intro d hd
    rw [List.map_append, List.map_append, List.map_singleton, List.map_singleton, getK_app (by simp [h.len]) n2, getK_app (by simp [h.len]) (n1 _)]
    by_cases e : d.2 = m
    · obtain ⟨w, x⟩ := d
      simp only [] at e
      subst e
      cases w
      · rw [if_pos rfl]
      · rw [if_neg (fun z => by have := keyDd_inj z; cases this), if_pos rfl]
    · have h1 : ∀ w, ¬ keyDd (w, m) = keyDd d := fun w z => e (by rw [← keyDd_inj z])
      rw [if_neg (h1 _), if_neg (h1 _)]
      exact h.get d (by omega)
theorem mask_go {ks : List Kd} (hl : ks.length ≤ 1024) (d : Deed) (j : Int) (hj : ∀ k : Kd, atI [encL k.1, encL k.2] j = some (encL (if d.1 = true then k.2 else k.1))) {c0 c1 : Cell} {K : List Int → Prop} (hk : ∀ ns : List Int, ns.sum = (maskD ks d : Nat) → K ns) :
    compGo (gTp 2 (gC (gNm 17) (gC (gNm 18) gN0))) (tBl (x2 (cIn false) (xVarR 13) (xIx (xVarR 18) (xC (.int j))))) (x2 (cI CPow fun i j => i * 2 ^ j.toNat) (xC (.int 1)) (xVarR 17)) [c0, c1, c2, c3, c4, c5, c6, c7, c8, c9, c10, c11, c12, .im (.int d.2), c14, c15, c16, .un, .un] (fun c => ∃ ns : List Int, lstF c = some (ns.map PyData.int) ∧ K ns) (enumD (ks.map encK)) [] := by
  rw [enumD_map]
  refine compGo_fm _ (fun p => reaches d p.1) (fun p => .int ((2 : Int) ^ p.2)) ks.zipIdx (fun p hp K1 K0 k1 k0 => ?_) ?_
  · have hp2 : p.2 < ks.length := by have := List.mem_zipIdx (show (p.1, p.2) ∈ ks.zipIdx from hp); omega
    have hly := fun l : List Nat => layAll_nat l
    have hdp := fun l : List Nat => depAll_nat l
    simp [encK, hj, -Prod.exists, -Prod.forall]
    have er : reaches d p.1 = decide (d.2 ∈ if d.1 = true then p.1.2 else p.1.1) := rfl
    generalize (if d.1 = true then p.1.2 else p.1.1) = l at er ⊢
    simp [encL, -Prod.exists, -Prod.forall]
    by_cases q : d.2 ∈ l
    · rw [if_pos ((ex_nat _ _).mpr q)]
      exact ⟨cpow_one _ (by omega), k1 (by rw [er]; simp [q])⟩
    · rw [if_neg fun z => q ((ex_nat _ _).mp z)]
      exact k0 (by rw [er]; simp [q])
  · have e : ((ks.zipIdx.filter fun p => reaches d p.1).map fun p => PyData.int ((2 : Int) ^ p.2)) = ((reachM ks d).map fun k => (2 : Int) ^ k).map PyData.int := by
      unfold reachM; rw [List.map_map, List.map_map]; rfl
    rw [e]
    exact ⟨_, lstF_ow _, hk _ (sumPow_int _)⟩
theorem w8_ok (hn : b.n ≤ 5) {ks : List Kd} (hl : ks.length ≤ 1024) (h : ∀ (rk : List (List Key)) (rd : List D) (c13 : Cell), RkOk ks b.n rk rd → E.nx [.im (encB b), .im (.int b.n), .ow ((ks.map encK).map .im), c3, .dt rk (rd.map .im), c5, c6, c7, c8, c9, c10, c11, c12, c13, c14, c15, c16, c17, c18]) :
    w_8 E [.im (encB b), .im (.int b.n), .ow ((ks.map encK).map .im), c3, .dt [] [], c5, c6, c7, c8, c9, c10, c11, c12, c13, c14, c15, c16, c17, c18] := by
  simp [w_8, -List.map_map]
  refine ⟨by omega, forGo_pre encN (fun p a => p ++ [a]) (fun p γ => ∃ (rk : List (List Key)) (rd : List D) (c13 : Cell), γ = [.im (encB b), .im (.int b.n), .ow ((ks.map encK).map .im), c3, .dt rk (rd.map .im), c5, c6, c7, c8, c9, c10, c11, c12, c13, c14, c15, c16, c17, c18] ∧ RkOk ks p.length rk rd) [] (List.range b.n) _ ⟨[], [], _, rfl, rfl, .nil, rfl, (fun _ z => nomatch z), fun _ z => absurd z (Nat.not_lt_zero _)⟩ ?_ ?_⟩
  · rintro pre x rest e γ ⟨rk, rd, c13, rfl, hr⟩ nx hnx
    obtain ⟨rfl, hx⟩ := range_pre e
    rw [fold_snoc] at hr hnx
    obtain ⟨h1, h2, h3⟩ := hr.put
    have hsz := hr.sz
    simp [encN, -List.map_map]
    refine mask_go hl (true, pre.length) 1 (fun k => by simp) (fun ns e1 => ?_)
    have e2 : putC rk (rd.map .im) (keyDd (true, pre.length)) (.im (.int ns.sum)) = (rk ++ [keyDd (true, pre.length)], (rd ++ [PyData.int (maskD ks (true, pre.length) : Nat)]).map .im) := by
      rw [putC_new h2, e1]; simp
    refine ⟨[.str "pour", .int (pre.length : Nat)], rfl, keyDd (true, pre.length), rfl, by simp, hr.nd, lt_size (by omega), ?_⟩
    rw [e2]
    refine mask_go hl (false, pre.length) 0 (fun k => by simp) (fun ns2 e3 => ?_)
    have e4 : putC (rk ++ [keyDd (true, pre.length)]) ((rd ++ [PyData.int (maskD ks (true, pre.length) : Nat)]).map .im) (keyDd (false, pre.length)) (.im (.int ns2.sum)) = (rk ++ [keyDd (true, pre.length)] ++ [keyDd (false, pre.length)], (rd ++ [PyData.int (maskD ks (true, pre.length) : Nat)] ++ [PyData.int (maskD ks (false, pre.length) : Nat)]).map .im) := by
      rw [putC_new h3, e3]; simp
    refine ⟨[.str "open", .int (pre.length : Nat)], rfl, keyDd (false, pre.length), rfl, by simp, (List.nodup_append.mp h1.nd).1, lt_size (by simp; omega), ?_⟩
    rw [e4]
    exact hnx _ ⟨_, _, _, rfl, by rw [List.length_append]; exact h1⟩
  · rintro γ ⟨rk, rd, c13, rfl, hr⟩
    rw [fold_snoc, List.length_range] at hr
    exact h rk rd c13 hr
theorem w9_ok (hn : b.n ≤ 5) {f : Nat → Nat → Bool} (hf : NearOk b f) (h : ∀ x : D, E.nx [.im (encB b), .im (.int b.n), c2, c3, c4, c5, c6, c7, .ow ((dnD b.n f).map .im), .ow ((upD b.n f).map .im), c10, c11, c12, c13, .ow (((toL x)).map .im), c15, c16, c17, c18]) :
    w_9 E [.im (encB b), .im (.int b.n), c2, c3, c4, c5, c6, c7, .ow ((dnD b.n f).map .im), .ow ((upD b.n f).map .im), c10, c11, c12, c13, c14, c15, c16, c17, c18] := by
  simp [w_9, -List.map_map]
  refine ⟨by omega, compGo_all encN PyData.int (fun _ => True) (List.range b.n) (fun x hx K1 K0 hk => ?_) fun ys _ _ => ?_⟩
  · have hx' : x < b.n := by simpa using hx
    simp [encN, dn_at hx', -ixC_o]
    refine ⟨_, rfl, ?_⟩
    refine compGo_fm encN (fun a => decide (a ∈ upL b.n f x)) encN (dnL b.n f x) (fun a ha K1 K0 k1 k0 => ?_) ?_
    · simp [encN, up_at hx', -ixC_o]
      refine ⟨(upL b.n f x).map fun x => .int (x : Nat), rfl, layAll_nat _, by rw [depAll_nat]; omega, ?_⟩
      by_cases q : a ∈ upL b.n f x
      · rw [if_pos ((ex_nat _ _).mpr q)]; exact k1 (by simp [q])
      · rw [if_neg fun z => q ((ex_nat _ _).mp z)]; exact k0 (by simp [q])
    · have hm : x ∈ (dnL b.n f x).filter fun a => decide (a ∈ upL b.n f x) := by
        simp [dnL, upL, hx', hf.1 x]
      refine ⟨_, ((dnL b.n f x).filter fun a => decide (a ∈ upL b.n f x)).map Int.ofNat, rfl, ?_, ?_, fun m _ _ => hk m trivial⟩
      · rw [lstF_ow, List.map_map]; rfl
      · rw [List.length_map]; exact List.length_pos_of_mem hm
  · exact h (.list (ys.map .int))
end
theorem frzs_im : ∀ ds : List D, frzs (ds.map .im) = ds.map .im
  | [] => by simp [frzs]
  | d :: ds => by simp [frzs, frzs_im ds]
def S_world : FS := fun cs K' => ∃ b : Bk, cs = [.im (encB b)] ∧ b.ok ∧ ∀ w : WC, w.ok → w.b = b → K' (worldO w)
theorem m_world : Main T__law_world N__law_world S_world := by
  rintro cs K' ⟨b, rfl, hb, h⟩
  have hn := hb.2.1
  rw [w__eq]
  rw [sSeq]
  have e0 : ixC (.im (encB b)) (.im (.int 0)) = some (.im (.int b.n)) := by simp [encB]
  refine ⟨_, rfl, (by simp), .im (.int b.n), e0, rfl, Nat.zero_le _, Nat.zero_le _, rfl, ?_⟩
  show sSeq w_1 _ _ [.im (encB b), .im (.int b.n), .ow [], .ow [], .dt [] [], .un, .un, .un, .un, .un, .un, .un, .un, .un, .un, .un, .un, .un, .un]
  rw [sSeq]
  refine w1_ok hn ?_
  have hf0 : NearOk b (f0 b) := ⟨fun a => by simp [f0], fun p hp => by simp [f0, hp]⟩
  simp only []
  rw [sSeq]
  refine w2_ok hn hf0 fun f c6 c7 hf => ?_
  simp only []
  rw [sSeq]
  refine w3_ok hn ?_
  simp only []
  rw [sSeq]
  refine w4_ok hn ?_
  simp only []
  rw [sSeq]
  refine w5_ok hn fun c7 c10 c11 => ?_
  simp only []
  rw [sSeq]
  refine w6_ok hn (lots_len hn) fun c11 c12 => ?_
  simp only []
  rw [sSeq]
  refine w7_ok kinds0_nodup fun ks hp hlt => ?_
  have hkl : ks.length ≤ 1024 := by rw [hp.length_eq]; exact kinds0_len hn
  simp only []
  rw [sSeq]
  refine w8_ok hn hkl fun rk rd c13 hr => ?_
  simp only []
  rw [sSeq]
  refine w9_ok hn hf fun x => ?_
  simp [w_10, fzAll, -List.map_map, frzs_im]
  have hw : WC.ok ⟨b, ks, rk, rd.map .im, .list (dnD b.n f), .list (upD b.n f), .list (toL x)⟩ := by
    refine ⟨hb, ?_, hkl, fun k hk C hC => kinds0_ok hb hf (hp.subset hk) hC, hlt, hr.get⟩
    intro z
    simp only [] at z
    rw [z] at hp
    have : (([], compl b.n []) : Kd) ∈ kinds0 b.n (lotsL b.n f) := by
      unfold kinds0
      exact List.mem_flatMap.mpr ⟨[], lots_nil _ _, List.mem_map.mpr ⟨[], lots_nil _ _, rfl⟩⟩
    have := hp.symm.subset this
    cases this
  exact h _ hw rfl
end L89
set_option maxHeartbeats 1000000
namespace L89
open PySem PySem.Spec PyProof.Rows L2 DL
def l_0 (S__law_world : FS) (S__law_book : FS) : XS := (sSet 2 (xCall S__law_world (xCons (xCall S__law_book (xCons (xVar 1) (xCons (xLst (xCons (xC (.int 2)) (xCons (xC (.int 2)) (xCons (xC (.int 3)) (xCons (xC (.int 1)) (xCons (xC (.int 2)) (xCons (xC (.int 3)) (xCons (xC (.int 2)) (xCons (xC (.int 3)) (xCons (xC (.int 4)) (xCons (xC (.int 2)) (xCons (xC (.int 3)) (xCons (xC (.int 5)) xNil))))))))))))) xNil))) xNil)))
def l_1 (S__law_echoed : FS) (S__law_pick : FS) : XS := (sFz [2] (sPar [3, 4] (xCons (xFlat (xIx (xVarR 2) (xC (.str ("book" : Str))))) (xCons (xCall S__law_echoed (xCons (xVar 1) (xCons (xVar 2) (xCons (xCall S__law_pick (xCons (xVar 1) (xCons (xLst (xCons (xC (.int 9)) (xCons (xC (.int 6)) (xCons (xC (.int 14)) (xCons (xC (.int 24)) xNil))))) xNil))) xNil)))) xNil))))
def l_2 (S__law_met_asks : FS) : XS := (sFz [2] (sSet 5 (xCall S__law_met_asks (xCons (xVar 1) (xCons (xVar 2) (xCons (xVar 4) (xCons (xC (.int 8)) xNil)))))))
def l_3 (S__law_met_asks : FS) (S__law_draw : FS) (S__law_calm : FS) (S__law_meets : FS) (S__law_bad : FS) (S__law_state : FS) : XS := (sIf (tBl (x2 cEq (xCall S__law_draw (xCons (xVar 1) (xCons (xC (.int 3)) xNil))) (xC (.int 0)))) (sSeq (sFz [2] (sSet 5 (xIf (tBl (x2 cEq (xCall S__law_draw (xCons (xVar 1) (xCons (xC (.int 3)) xNil))) (xC (.int 0)))) (xCall S__law_met_asks (xCons (xVar 1) (xCons (xVar 2) (xCons (xTup xNil) (xCons (xC (.int 5)) xNil))))) (xVar 5)))) (sSeq (sFz [2] (sSet 6 (xCall S__law_calm (xCons (xVar 1) (xCons (xVar 2) (xCons (xVar 5) xNil)))))) (sFz [2] (sSet 4 (xIf (tBl (xCall S__law_meets (xCons (xCall S__law_bad (xCons (xVar 2) (xCons (xVar 5) xNil))) (xCons (xCall S__law_state (xCons (xVar 2) (xCons (xVar 6) xNil))) xNil)))) (xVar 6) (xVar 4)))))) sNext)
def l_4 (S__law_bad : FS) : XS := (sFz [2] (sSet 7 (xCall S__law_bad (xCons (xVar 2) (xCons (xVar 5) xNil)))))
def l_5 (S__law_met_asks : FS) (S__law_meets : FS) (S__law_bad : FS) (S__law_state : FS) : XS := (sFz [7, 2] (sIf (tNotX (tBl (xCall S__law_meets (xCons (xVar 7) (xCons (xCall S__law_state (xCons (xVar 2) (xCons (xVar 4) xNil))) xNil))))) (sSeq (sFz [2] (sSet 5 (xCall S__law_met_asks (xCons (xVar 1) (xCons (xVar 2) (xCons (xVar 4) (xCons (xC (.int 5)) xNil))))))) (sFz [2] (sSet 7 (xCall S__law_bad (xCons (xVar 2) (xCons (xVar 5) xNil)))))) sNext))
def l_6 (S__law_breaking : FS) : XS := (sFz [2, 7] (sSet 8 (xDisp [(("deeds" : Str), (xVar 4)), (("asks" : Str), (xVar 5)), (("breaking" : Str), (xCall S__law_breaking (xCons (xVar 2) (xCons (xVar 4) (xCons (xVar 7) xNil)))))])))
def l_7 (S_judge_echo : FS) : XS := (sSet 9 (xCall S_judge_echo (xCons (xVar 3) (xCons (xVar 4) (xCons (xVar 5) xNil)))))
def l_8 (S__law_is_right : FS) (S__law_is_harmless : FS) : XS := (sFz [8] (sIf (tOrX (tNotX (tBl (xCall S__law_is_right (xCons (xVar 8) (xCons (xVar 9) xNil))))) (tBl (x2 cNe (x2 cEq (xIx (xVarR 9) (xC (.int 0))) (xC (.str ("firm" : Str)))) (xCall S__law_is_harmless (xCons (xVar 4) (xCons (xVar 5) xNil)))))) (sRet (xC (.bool false))) sNext))
def l_9 (S_meets_asks : FS) (S__law_again : FS) : XS := (sIf (tAndX (tBl (x2 cEq (xIx (xVarR 9) (xC (.int 0))) (xC (.str ("echo" : Str))))) (tBl (x2 (cIs true) (xCall S_meets_asks (xCons (xVar 3) (xCons (xCall S__law_again (xCons (xVar 4) (xCons (xFlat (xIx (xVarR 9) (xC (.int 1)))) (xCons (xFlat (xIx (xVarR 9) (xC (.int 2)))) xNil)))) (xCons (xVar 5) xNil)))) (xC (.bool false))))) (sRet (xC (.bool false))) sNext)
def l_10 (S__law_things : FS) : XS := (sFz [8] (sSet 10 (x2 cAdd (xLst (xCons (xVar 9) xNil)) (xCall S__law_things (xCons (xVar 1) (xCons (xVar 8) xNil))))))
def l_11 (S__law_holds : FS) : XS := (sFz [2, 8] (sIf (tBl (x2 cNe (xLC (xEnum (xCons (xVarR 10) xNil)) (gTp 2 (gC (gNm 11) (gC (gNm 12) gN0))) (tNotX (tBl (xCall S__law_holds (xCons (xVar 2) (xCons (xVar 8) (xCons (xVar 12) (xCons (x2 cEq (x2 (cI (fun _ j => 0 < j) fun i j => i % j) (xCB cInt (xCons (xVarR 11) xNil)) (xC (.int 3))) (xC (.int 0))) xNil))))))) (xC (.int 1)) [11, 12]) (xLst xNil))) (sRet (xC (.bool false))) sNext))
def l_12 (S_meets_asks : FS) : XS := (sIf (tBl (x2 (cIs true) (xCall S_meets_asks (xCons (xVar 3) (xCons (xVar 4) (xCons (xVar 5) xNil)))) (xC (.bool true)))) (sRet (xC (.bool false))) sNext)
def l_13 (S_judge_echo : FS) (S__law_same : FS) : XS := (sRet (xCall S__law_same (xCons (xCallK S_judge_echo 3 [2, 1, 0] (xCons (xVar 5) (xCons (xVar 4) (xCons (xVar 3) xNil)))) (xCons (xVar 9) xNil))))
theorem l__eq (S__law_deck : FS) (S__law_world : FS) (S__law_book : FS) (S__law_echoed : FS) (S__law_pick : FS) (S__law_met_asks : FS) (S__law_draw : FS) (S__law_calm : FS) (S__law_meets : FS) (S__law_bad : FS) (S__law_state : FS) (S__law_breaking : FS) (S_judge_echo : FS) (S__law_is_right : FS) (S__law_is_harmless : FS) (S_meets_asks : FS) (S__law_again : FS) (S__law_things : FS) (S__law_holds : FS) (S__law_same : FS) : T_law_rest S__law_deck S__law_world S__law_book S__law_echoed S__law_pick S__law_met_asks S__law_draw S__law_calm S__law_meets S__law_bad S__law_state S__law_breaking S_judge_echo S__law_is_right S__law_is_harmless S_meets_asks S__law_again S__law_things S__law_holds S__law_same = (sSeq (l_0 S__law_world S__law_book) (sSeq (l_1 S__law_echoed S__law_pick) (sSeq (l_2 S__law_met_asks) (sSeq (l_3 S__law_met_asks S__law_draw S__law_calm S__law_meets S__law_bad S__law_state) (sSeq (l_4 S__law_bad) (sSeq (l_5 S__law_met_asks S__law_meets S__law_bad S__law_state) (sSeq (l_6 S__law_breaking) (sSeq (l_7 S_judge_echo) (sSeq (l_8 S__law_is_right S__law_is_harmless) (sSeq (l_9 S_meets_asks S__law_again) (sSeq (l_10 S__law_things) (sSeq (l_11 S__law_holds) (sSeq (l_12 S_meets_asks) (l_13 S_judge_echo S__law_same)))))))))))))) := rfl
@[simp] theorem frz_worldF (w : WC) : frz (worldF w) = worldF w := by simp [worldF]
@[simp] theorem frz_worldO (w : WC) : frz (worldO w) = worldF w := frz_world w
@[simp] theorem frz_caseF (s : List Deed) (as : List Ask) (l : List (Nat × Nat)) : frz (caseF s as l) = caseF s as l := by simp [caseF]
@[simp] theorem worldF_ne (w : WC) : (worldF w = .un) = False := by simp [worldF]
@[simp] theorem worldO_ne (w : WC) : (worldO w = .un) = False := by simp [worldO]
@[simp] theorem ixw (w : WC) (k : Str) : ixC (worldF w) (.im (.str k)) = getK wkeys (wcells w) (.inr k) := rfl
def Sc (w : WC) (s : List Deed) : Prop := (∀ d ∈ s, d.2 < w.b.n) ∧ s.length ≤ 24
section
variable {E : XEnds} {w : WC} {c0 c1 c2 c3 c4 c5 c6 c7 c8 c9 c10 c11 c12 : Cell}
theorem l0_ok (h : ∀ w : WC, w.ok → E.nx [c0, .deck, worldO w, c3, c4, c5, c6, c7, c8, c9, c10, c11, c12]) : l_0 S_world S_book E [c0, .deck, c2, c3, c4, c5, c6, c7, c8, c9, c10, c11, c12] := by
  simp [l_0]
  refine ⟨[2, 2, 3, 1, 2, 3, 2, 3, 4, 2, 3, 5], rfl, by simp, by simp, by simp, fun b hb => ⟨b, rfl, hb, fun w hw e => ?_⟩⟩
  subst e
  exact h w hw
theorem l1_ok (hw : w.ok) (h : ∀ s, Sc w s → E.nx [c0, .deck, worldF w, .im (encB w.b), .im (encS s), c5, c6, c7, c8, c9, c10, c11, c12]) : l_1 S_echoed S_pick E [c0, .deck, worldO w, c3, c4, c5, c6, c7, c8, c9, c10, c11, c12] := by
  simp [l_1, fzAll]
  refine ⟨[.int 9, .int 6, .int 14, .int 24], .inl rfl, by simp, by simp, fun d hd => ?_⟩
  have : ∃ m : Nat, d = .int (m : Nat) ∧ m ≤ 24 := by
    simp at hd
    rcases hd with rfl | rfl | rfl | rfl
    · exact ⟨9, rfl, by omega⟩
    · exact ⟨6, rfl, by omega⟩
    · exact ⟨14, rfl, by omega⟩
    · exact ⟨24, rfl, by omega⟩
  obtain ⟨m, rfl, hm⟩ := this
  exact ⟨w, m, rfl, hw, hm, fun s h1 h2 => h s ⟨h1, by omega⟩⟩
theorem l2_ok (hw : w.ok) {s : List Deed} (hs : Sc w s) (h : ∀ as, AsksIn w.ks as → meets s as = true → E.nx [c0, .deck, worldF w, c3, .im (encS s), .im (encAs as), c6, c7, c8, c9, c10, c11, c12]) : l_2 S_met E [c0, .deck, worldF w, c3, .im (encS s), c5, c6, c7, c8, c9, c10, c11, c12] := by
  simp [l_2, fzAll]
  exact ⟨w, s, 8, rfl, hw, hs.1, by omega, by omega, h⟩
theorem l3_ok (hw : w.ok) {s : List Deed} {as : List Ask} (hs : Sc w s) (ha : AsksIn w.ks as) (h : ∀ s as c6, Sc w s → AsksIn w.ks as → E.nx [c0, .deck, worldF w, c3, .im (encS s), .im (encAs as), c6, c7, c8, c9, c10, c11, c12]) :
    l_3 S_met S_draw S_calm S_lmeets S_bad S_state E [c0, .deck, worldF w, c3, .im (encS s), .im (encAs as), c6, c7, c8, c9, c10, c11, c12] := by
  simp [l_3, fzAll]
  refine draw_nat (k := 3) (by omega) (by omega) fun r hr => ⟨_, rfl, by simp, by simp, ?_⟩
  have core : ∀ as, AsksIn w.ks as → ∀ t : List Deed, (∀ d ∈ t, d.2 < w.b.n) → t.length ≤ 8 → S_bad [worldF w, .im (encAs as)] fun c_1 => Cell.flat (.im (encS t)) = true ∧ S_state [worldF w, .im (encS t)] fun c_2 => S_lmeets [c_1, c_2] fun c_3 =>
        c_3 = .im (.bool false) ∧ E.nx [c0, .deck, worldF w, c3, .im (encS s), .im (encAs as), .im (encS t), c7, c8, c9, c10, c11, c12] ∨ c_3 = .im (.bool true) ∧ Cell.flat (.im (encS t)) = true ∧ E.nx [c0, .deck, worldF w, c3, .im (encS t), .im (encAs as), .im (encS t), c7, c8, c9, c10, c11, c12] := fun as ha t ht hl => by
    refine ⟨w, as, rfl, hw, ha, rfl, w, t, rfl, hw, ht, ?_⟩
    refine ⟨_, _, _, _, _, rfl, .inl rfl, ?_⟩
    generalize lmeets _ _ _ _ = z
    cases z
    · exact .inl ⟨rfl, h s as _ hs ha⟩
    · exact .inr ⟨rfl, rfl, h t as _ ⟨ht, by omega⟩ ha⟩
  split
  · refine draw_nat (k := 3) (by omega) (by omega) fun r hr => ⟨_, rfl, by simp, by simp, ?_⟩
    split
    · refine ⟨w, [], 5, rfl, hw, (fun _ z => nomatch z), by omega, by omega, fun as ha _ => ⟨rfl, w, as, rfl, hw, ha, fun t ht hl => ⟨rfl, core as ha t ht hl⟩⟩⟩
    · exact ⟨w, as, rfl, hw, ha, fun t ht hl => core as ha t ht hl⟩
  · exact h s as _ hs ha
def badC (w : WC) (as : List Ask) : List D := [.int (badM w.ks as "wet" : Nat), .int (badM w.ks as "dry" : Nat), .int (badM w.ks as "kept" : Nat)]
theorem l4_ok (hw : w.ok) {as : List Ask} (ha : AsksIn w.ks as) (h : E.nx [c0, .deck, worldF w, c3, c4, .im (encAs as), c6, .ow ((badC w as).map .im), c8, c9, c10, c11, c12]) : l_4 S_bad E [c0, .deck, worldF w, c3, c4, .im (encAs as), c6, c7, c8, c9, c10, c11, c12] := by
  simp [l_4, fzAll]
  exact ⟨w, as, rfl, hw, ha, h⟩
theorem l5_ok (hw : w.ok) {s : List Deed} {as : List Ask} (hs : Sc w s) (ha : AsksIn w.ks as) (h : ∀ as c7, AsksIn w.ks as → meets s as = true → frz c7 = .im (.list (badC w as)) → E.nx [c0, .deck, worldF w, c3, .im (encS s), .im (encAs as), c6, c7, c8, c9, c10, c11, c12]) :
    l_5 S_met S_lmeets S_bad S_state E [c0, .deck, worldF w, c3, .im (encS s), .im (encAs as), c6, .ow ((badC w as).map .im), c8, c9, c10, c11, c12] := by
  simp [l_5, fzAll, -List.map_map]
  refine ⟨w, s, rfl, hw, hs.1, ?_⟩
  refine ⟨_, _, _, _, _, rfl, .inr rfl, ?_⟩
  rw [lmeets_eq hw ha (state_ok _ _)]
  cases q : meets s as
  · refine .inl ⟨rfl, w, s, 5, rfl, hw, hs.1, by omega, by omega, fun as ha hm => ⟨rfl, w, as, rfl, hw, ha, ?_⟩⟩
    exact h as _ ha hm (frz_ow _)
  · exact .inr ⟨rfl, h as _ ha q (by simp)⟩
theorem l6_ok (hw : w.ok) {s : List Deed} {as : List Ask} (hs : Sc w s) (ha : AsksIn w.ks as) (h7 : frz c7 = .im (.list (badC w as))) (h : ∀ c7, E.nx [c0, .deck, worldF w, c3, .im (encS s), .im (encAs as), c6, c7, .dk ckeys [.im (encS s), .im (encAs as), .ow (((brkL s as).map encP).map .im)], c9, c10, c11, c12]) :
    l_6 S_breaking E [c0, .deck, worldF w, c3, .im (encS s), .im (encAs as), c6, c7, c8, c9, c10, c11, c12] := by
  simp [l_6, fzAll, h7, -List.map_map]
  exact ⟨w, s, as, _, rfl, rfl, hw, ha, hs.1, by have := hs.2; omega, .inr rfl, h _⟩
theorem l7_ok (hw : w.ok) {s : List Deed} {as : List Ask} (hs : Sc w s) (ha : AsksIn w.ks as) (hm : meets s as = true) (h : E.nx [c0, .deck, c2, .im (encB w.b), .im (encS s), .im (encAs as), c6, c7, c8, .im (encJ s (firstE s as)), c10, c11, c12]) :
    l_7 S_judge_echo E [c0, .deck, c2, .im (encB w.b), .im (encS s), .im (encAs as), c6, c7, c8, c9, c10, c11, c12] := by
  simp [l_7]
  exact ⟨w.b, s, as, rfl, ha.all hw hs.1, hm, h⟩
theorem fit_J (s : List Deed) (o : Option Nat) : fit (encJ s o) = true := by
  cases o <;> simp [encJ, fit, okD, okDs]
theorem holds_J (s : List Deed) (as : List Ask) : holdsE s as (encJ s (firstE s as)) = true := by
  cases e : firstE s as with
  | none => simp [encJ, holdsE, e]
  | some i =>
    have h1 := (firstE_some e).1
    have h2 := echo_break e
    simp [encJ, holdsE, echoes, h2]
    omega
theorem l8_ok {s : List Deed} {as : List Ask} (ha : AsksIn w.ks as) (hm : meets s as = true) (h : E.nx [c0, .deck, c2, c3, .im (encS s), .im (encAs as), c6, c7, caseF s as (brkL s as), .im (encJ s (firstE s as)), c10, c11, c12]) :
    l_8 S_right S_harmless E [c0, .deck, c2, c3, .im (encS s), .im (encAs as), c6, c7, .dk ckeys [.im (encS s), .im (encAs as), .ow (((brkL s as).map encP).map .im)], .im (encJ s (firstE s as)), c10, c11, c12] := by
  have ec : frz (.dk ckeys [.im (encS s), .im (encAs as), .ow (((brkL s as).map encP).map .im)]) = caseF s as (brkL s as) := by simp [frzs, caseF, ccells, -List.map_map]
  simp [l_8, fzAll, -List.map_map, -frz_dk]
  rw [ec]
  refine ⟨rfl, s, as, brkL s as, _, rfl, hm, brkL_ok s as, fit_J _ _, .inr ⟨by rw [holds_J], ?_⟩⟩
  cases e : firstE s as with
  | none =>
    rw [e] at h
    simp [encJ]
    refine ⟨s, as, rfl, fun a m => (ha.wo a m).2, _, rfl, by simp, by simp, ?_⟩
    simp [firstE_none.mp e]
    exact h
  | some i =>
    rw [e] at h
    simp [encJ]
    refine ⟨s, as, rfl, fun a m => (ha.wo a m).2, _, rfl, by simp, by simp, ?_⟩
    have : harm s as = false := by
      cases q : harm s as with
      | false => rfl
      | true => rw [firstE_none.mpr q] at e; cases e
    simp [this]
    exact h
theorem l9_ok (hw : w.ok) {s : List Deed} {as : List Ask} (hs : Sc w s) (ha : AsksIn w.ks as) (h : E.nx [c0, .deck, c2, .im (encB w.b), .im (encS s), .im (encAs as), c6, c7, c8, .im (encJ s (firstE s as)), c10, c11, c12]) :
    l_9 S_meets_asks S_again E [c0, .deck, c2, .im (encB w.b), .im (encS s), .im (encAs as), c6, c7, c8, .im (encJ s (firstE s as)), c10, c11, c12] := by
  cases e : firstE s as with
  | none =>
    rw [e] at h
    simp [l_9, encJ] at h ⊢
    exact h
  | some i =>
    rw [e] at h
    have h1 := (firstE_some e).1
    simp [l_9, encJ, -Bool.exists_bool] at h ⊢
    refine ⟨s, i, s.length, rfl, h1, by have := hs.2; omega, ?_⟩
    have hd : ∀ d ∈ agn s i s.length, d.2 < w.b.n := fun d m => by
      unfold agn at m
      rcases List.mem_append.mp m with m | m
      · exact hs.1 d (List.mem_of_mem_take m)
      · rcases List.mem_cons.mp m with e | m
        · rw [e, List.getD_eq_getElem?_getD, List.getElem?_eq_getElem h1]; exact hs.1 _ (List.getElem_mem h1)
        · exact hs.1 d (List.mem_of_mem_drop m)
    refine ⟨w.b, _, as, rfl, ha.all hw hd, ?_⟩
    rw [echo_break e]
    exact ⟨_, rfl, false, rfl, by simpa using h⟩
theorem l10_ok {s : List Deed} {as : List Ask} (hl : s.length ≤ 24) (h : ∀ ds : List D, (∀ d ∈ ds, fit d = true) → ds.length ≤ 2000 → E.nx [c0, .deck, c2, c3, c4, c5, c6, c7, caseF s as (brkL s as), .im (encJ s (firstE s as)), .ow (ds.map .im), c11, c12]) :
    l_10 S_things E [c0, .deck, c2, c3, c4, c5, c6, c7, caseF s as (brkL s as), .im (encJ s (firstE s as)), c10, c11, c12] := by
  simp [l_10, fzAll]
  refine ⟨s, as, brkL s as, rfl, by omega, ?_, ?_, fun ds hf hl => ?_⟩
  · have := fold_len (brkI s as) s.length (brkI_len s as) s.zipIdx []
    have h2 : s.length * s.length ≤ 24 * 24 := Nat.mul_le_mul hl hl
    simp at this
    unfold brkL
    omega
  · intro p hp
    have := (brkL_ok s as p).mp hp
    omega
  · refine ⟨[encJ s (firstE s as)], rfl, ds, rfl, Nat.le_trans (show 1 + ds.length ≤ 1100 by omega) (by decide), ?_⟩
    exact h (encJ s (firstE s as) :: ds) (fun d hd => by rcases List.mem_cons.mp hd with rfl | hd; exact fit_J _ _; exact hf d hd) (by simp; omega)
theorem l11_ok (hw : w.ok) {s : List Deed} {as : List Ask} (hs : Sc w s) (ha : AsksIn w.ks as) (hm : meets s as = true) {ds : List D} (hf : ∀ d ∈ ds, fit d = true) (h : E.nx [c0, .deck, worldF w, c3, c4, c5, c6, c7, caseF s as (brkL s as), c9, .ow (ds.map .im), c11, c12]) :
    l_11 S_holds E [c0, .deck, worldF w, c3, c4, c5, c6, c7, caseF s as (brkL s as), c9, .ow (ds.map .im), c11, c12] := by
  simp [l_11, fzAll]
  have e : enumD ds = ds.zipIdx.map fun p => .tuple [.int (p.2 : Nat), p.1] := rfl
  rw [e]
  refine compGo_fm _ (fun _ => false) (fun _ => .int 1) _ (fun p hp K1 K0 k1 k0 => ?_) ?_
  · have hd : p.1 ∈ ds := by have := List.mem_zipIdx (show (p.1, p.2) ∈ ds.zipIdx from hp); rw [this.2.2]; exact List.getElem_mem _
    simp
    exact ⟨w, s, as, _, _, _, rfl, hw, ha, hs.1, by have := hs.2; omega, hm, brkL_ok s as, hf _ hd, .inr ⟨rfl, k0 rfl⟩⟩
  · rw [show List.filter (fun x => false) ds.zipIdx = [] by simp]
    simp
    exact h
theorem l12_ok (hw : w.ok) {s : List Deed} {as : List Ask} (hs : Sc w s) (ha : AsksIn w.ks as) (hm : meets s as = true) (h : E.nx [c0, .deck, c2, .im (encB w.b), .im (encS s), .im (encAs as), c6, c7, c8, c9, c10, c11, c12]) :
    l_12 S_meets_asks E [c0, .deck, c2, .im (encB w.b), .im (encS s), .im (encAs as), c6, c7, c8, c9, c10, c11, c12] := by
  simp [l_12, -Bool.exists_bool]
  refine ⟨w.b, s, as, rfl, ha.all hw hs.1, ?_⟩
  rw [hm]
  exact ⟨_, rfl, false, rfl, by simpa using h⟩
theorem l13_ok (hw : w.ok) {s : List Deed} {as : List Ask} (hs : Sc w s) (ha : AsksIn w.ks as) (hm : meets s as = true) (h : E.rt (.im (.bool true))) :
    l_13 S_judge_echo S_same E [c0, .deck, c2, .im (encB w.b), .im (encS s), .im (encAs as), c6, c7, c8, .im (encJ s (firstE s as)), c10, c11, c12] := by
  simp [l_13]
  refine ⟨w.b, s, as, rfl, ha.all hw hs.1, hm, ?_⟩
  refine .inr ?_
  cases firstE s as with
  | none => exact ⟨[.str "firm"], rfl, by simp [atom], h⟩
  | some i => exact ⟨[.str "echo", .int i, .int s.length], rfl, by simp [atom], h⟩
end
def S_law_rest_ok : XS := T_law_rest S_deck S_world S_book S_echoed S_pick S_met S_draw S_calm S_lmeets S_bad S_state S_breaking S_judge_echo S_right S_harmless S_meets_asks S_again S_things S_holds S_same
theorem law_rest {E : XEnds} (c0 : Cell) (h : E.rt (.im (.bool true))) : S_law_rest_ok E [c0, .deck, .un, .un, .un, .un, .un, .un, .un, .un, .un, .un, .un] := by
  unfold S_law_rest_ok
  rw [l__eq]
  rw [sSeq]
  refine l0_ok fun w hw => ?_
  simp only []
  rw [sSeq]
  refine l1_ok hw fun s hs => ?_
  simp only []
  rw [sSeq]
  refine l2_ok hw hs fun as ha _ => ?_
  simp only []
  rw [sSeq]
  refine l3_ok hw hs ha fun s as c6 hs ha => ?_
  simp only []
  rw [sSeq]
  refine l4_ok hw ha ?_
  simp only []
  rw [sSeq]
  refine l5_ok hw hs ha fun as c7 ha hm h7 => ?_
  simp only []
  rw [sSeq]
  refine l6_ok hw hs ha h7 fun c7 => ?_
  simp only []
  rw [sSeq]
  refine l7_ok hw hs ha hm ?_
  simp only []
  rw [sSeq]
  refine l8_ok ha hm ?_
  simp only []
  rw [sSeq]
  refine l9_ok hw hs ha ?_
  simp only []
  rw [sSeq]
  refine l10_ok hs.2 fun ds hf hl => ?_
  simp only []
  rw [sSeq]
  refine l11_ok hw hs ha hm hf ?_
  simp only []
  rw [sSeq]
  refine l12_ok hw hs ha hm ?_
  simp only []
  exact l13_ok hw hs ha hm h
def S_law : FS := fun cs K' => ∃ ns : List Int, cs = [.im (.list (ns.map .int))] ∧ ns.length ≤ 63 ∧ K' (.im (.bool true))
theorem m_law : Main (T_law S_deck S_world S_book S_echoed S_pick S_met S_draw S_calm S_lmeets S_bad S_state S_breaking S_judge_echo S_right S_harmless S_meets_asks S_again S_things S_holds S_same) N_law S_law := by
  rintro cs K' ⟨ns, rfl, hl, h⟩
  unfold T_law
  rw [sSeq]
  refine ⟨_, rfl, rfl, ns, 89, rfl, hl, fun ms m hms => ?_⟩
  refine ⟨ms, m, 0, rfl, by omega, ?_⟩
  exact law_rest _ ⟨⟨_, rfl⟩, h⟩
end L89
set_option maxHeartbeats 2000000
namespace L89
open PySem PySem.Spec PyProof.Rows L2 DL
theorem lam_args : ∀ ds cs K', S_lam ds cs K' → cs.length = P_does_meet_lam.length ∧ ∃ es : List D, cs = es.map .im := by
  rintro ds cs K' ⟨s, k, rfl, rfl, _⟩
  exact ⟨rfl, [encK k], rfl⟩
theorem lam_main : ∀ ds cs K', S_lam ds cs K' → ds.length = L_does_meet_lam.fr.length → T_does_meet_lam S_standing_of (cs ++ (ds.map .im ++ List.replicate (N_does_meet_lam.length - cs.length - ds.length) .un)) K' := by
  rintro ds cs K' h _
  have h0 := h
  obtain ⟨s, k, rfl, rfl, _⟩ := h0
  simpa using m_lam _ _ _ h
section
variable {P : Program} {w : World} {K : PySem.W.Frag} {mg : Str → Option Value} {base : Heap} {tb : List (Addr × Str)}
/-- a def of the top, as the head leaves it -/
def Fx (K : PySem.W.Frag) (mg : Str → Option Value) (x : Str) (st : Stmt) (ps : List Str) : Prop := ∃ f fd, mg x = some (.ref f) ∧ FnP K x st f fd ∧ Binds K fd ps []
theorem len_is_integer : ∀ cs K', S_is_integer cs K' → cs.length = P_is_integer.length := by (intro cs K' h; unfold S_is_integer at h; split at h <;> first | rfl | exact h.elim)
theorem j_is_integer (G : Gs K mg) (h : Fx K mg "is_integer" s_is_integer P_is_integer) : Cal P w K mg base ⟨dkn, tb⟩ 1 "is_integer" s_is_integer P_is_integer S_is_integer := by
  obtain ⟨f, fd, hm, F, hb⟩ := h
  exact ⟨f, fd, hm, F, hb, fn_okD F sc_is_integer len_is_integer (fun cdv A outer s H E B hB hr => b_is_integer G cdv A outer s H E B hB hr) m_is_integer⟩
theorem len_is_between : ∀ cs K', S_is_between cs K' → cs.length = P_is_between.length := by (intro cs K' h; unfold S_is_between at h; split at h <;> first | rfl | exact h.elim)
theorem j_is_between (G : Gs K mg) (h : Fx K mg "is_between" s_is_between P_is_between) (c_is_integer : Cal P w K mg base ⟨dkn, tb⟩ 1 "is_integer" s_is_integer P_is_integer S_is_integer) : Cal P w K mg base ⟨dkn, tb⟩ 2 "is_between" s_is_between P_is_between S_is_between := by
  obtain ⟨f, fd, hm, F, hb⟩ := h
  exact ⟨f, fd, hm, F, hb, fn_okD F sc_is_between len_is_between (fun cdv A outer s H E B hB hr => b_is_between G c_is_integer cdv A outer s H E B hB hr) m_is_between⟩
theorem len_is_pair_of : ∀ cs K', S_is_pair_of cs K' → cs.length = P_is_pair_of.length := by (intro cs K' h; repeat (first | (obtain ⟨e, -⟩ := h; subst e; rfl) | obtain ⟨_, h⟩ := h))
theorem j_is_pair_of (G : Gs K mg) (h : Fx K mg "is_pair_of" s_is_pair_of P_is_pair_of) (c_is_between : Cal P w K mg base ⟨dkn, tb⟩ 2 "is_between" s_is_between P_is_between S_is_between) : Cal P w K mg base ⟨dkn, tb⟩ 3 "is_pair_of" s_is_pair_of P_is_pair_of S_is_pair_of := by
  obtain ⟨f, fd, hm, F, hb⟩ := h
  exact ⟨f, fd, hm, F, hb, fn_okD F sc_is_pair_of len_is_pair_of (fun cdv A outer s H E B hB hr => b_is_pair_of G c_is_between cdv A outer s H E B hB hr) m_is_pair_of⟩
theorem len_is_book_value : ∀ cs K', S_is_book_value cs K' → cs.length = P_is_book_value.length := by (intro cs K' h; repeat (first | (obtain ⟨e, -⟩ := h; subst e; rfl) | obtain ⟨_, h⟩ := h))
theorem j_is_book_value (G : Gs K mg) (h : Fx K mg "is_book_value" s_is_book_value P_is_book_value) (c_is_between : Cal P w K mg base ⟨dkn, tb⟩ 2 "is_between" s_is_between P_is_between S_is_between) (c_is_pair_of : Cal P w K mg base ⟨dkn, tb⟩ 3 "is_pair_of" s_is_pair_of P_is_pair_of S_is_pair_of) : Cal P w K mg base ⟨dkn, tb⟩ 4 "is_book_value" s_is_book_value P_is_book_value S_is_book_value := by
  obtain ⟨f, fd, hm, F, hb⟩ := h
  exact ⟨f, fd, hm, F, hb, fn_okD F sc_is_book_value len_is_book_value (fun cdv A outer s H E B hB hr => b_is_book_value G c_is_between c_is_pair_of cdv A outer s H E B hB hr) m_is_book_value⟩
theorem len_need_book : ∀ cs K', S_need_book cs K' → cs.length = P_need_book.length := by (intro cs K' h; repeat (first | (obtain ⟨e, -⟩ := h; subst e; rfl) | obtain ⟨_, h⟩ := h))
theorem j_need_book (G : Gs K mg) (h : Fx K mg "need_book" s_need_book P_need_book) (c_is_book_value : Cal P w K mg base ⟨dkn, tb⟩ 4 "is_book_value" s_is_book_value P_is_book_value S_is_book_value) : Cal P w K mg base ⟨dkn, tb⟩ 5 "need_book" s_need_book P_need_book S_need_book := by
  obtain ⟨f, fd, hm, F, hb⟩ := h
  exact ⟨f, fd, hm, F, hb, fn_okD F sc_need_book len_need_book (fun cdv A outer s H E B hB hr => b_need_book G c_is_book_value cdv A outer s H E B hB hr) m_need_book⟩
theorem len_lows : ∀ cs K', S_lows cs K' → cs.length = P_lows.length := by (intro cs K' h; repeat (first | (obtain ⟨e, -⟩ := h; subst e; rfl) | obtain ⟨_, h⟩ := h))
theorem j_lows (G : Gs K mg) (h : Fx K mg "lows" s_lows P_lows) : Cal P w K mg base ⟨dkn, tb⟩ 1 "lows" s_lows P_lows S_lows := by
  obtain ⟨f, fd, hm, F, hb⟩ := h
  exact ⟨f, fd, hm, F, hb, fn_okD F sc_lows len_lows (fun cdv A outer s H E B hB hr => b_lows G cdv A outer s H E B hB hr) m_lows⟩
theorem len_highs : ∀ cs K', S_highs cs K' → cs.length = P_highs.length := by (intro cs K' h; repeat (first | (obtain ⟨e, -⟩ := h; subst e; rfl) | obtain ⟨_, h⟩ := h))
theorem j_highs (G : Gs K mg) (h : Fx K mg "highs" s_highs P_highs) : Cal P w K mg base ⟨dkn, tb⟩ 1 "highs" s_highs P_highs S_highs := by
  obtain ⟨f, fd, hm, F, hb⟩ := h
  exact ⟨f, fd, hm, F, hb, fn_okD F sc_highs len_highs (fun cdv A outer s H E B hB hr => b_highs G cdv A outer s H E B hB hr) m_highs⟩
theorem len_hill_of_lows : ∀ cs K', S_hill_of_lows cs K' → cs.length = P_hill_of_lows.length := by (intro cs K' h; repeat (first | (obtain ⟨e, -⟩ := h; subst e; rfl) | obtain ⟨_, h⟩ := h))
theorem j_hill_of_lows (G : Gs K mg) (h : Fx K mg "hill_of_lows" s_hill_of_lows P_hill_of_lows) : Cal P w K mg base ⟨dkn, tb⟩ 1 "hill_of_lows" s_hill_of_lows P_hill_of_lows S_hill_of_lows := by
  obtain ⟨f, fd, hm, F, hb⟩ := h
  exact ⟨f, fd, hm, F, hb, fn_okD F sc_hill_of_lows len_hill_of_lows (fun cdv A outer s H E B hB hr => b_hill_of_lows G cdv A outer s H E B hB hr) m_hill_of_lows⟩
theorem len_closing_of : ∀ cs K', S_closing_of cs K' → cs.length = P_closing_of.length := by (intro cs K' h; repeat (first | (obtain ⟨e, -⟩ := h; subst e; rfl) | obtain ⟨_, h⟩ := h))
theorem j_closing_of (G : Gs K mg) (h : Fx K mg "closing_of" s_closing_of P_closing_of) (c_lows : Cal P w K mg base ⟨dkn, tb⟩ 1 "lows" s_lows P_lows S_lows) (c_hill_of_lows : Cal P w K mg base ⟨dkn, tb⟩ 1 "hill_of_lows" s_hill_of_lows P_hill_of_lows S_hill_of_lows) : Cal P w K mg base ⟨dkn, tb⟩ 2 "closing_of" s_closing_of P_closing_of S_closing_of := by
  obtain ⟨f, fd, hm, F, hb⟩ := h
  exact ⟨f, fd, hm, F, hb, fn_okD F sc_closing_of len_closing_of (fun cdv A outer s H E B hB hr => b_closing_of G c_lows c_hill_of_lows cdv A outer s H E B hB hr) m_closing_of⟩
theorem len_mask_of : ∀ cs K', S_mask_of cs K' → cs.length = P_mask_of.length := by (intro cs K' h; repeat (first | (obtain ⟨e, -⟩ := h; subst e; rfl) | obtain ⟨_, h⟩ := h))
theorem j_mask_of (G : Gs K mg) (h : Fx K mg "mask_of" s_mask_of P_mask_of) : Cal P w K mg base ⟨dkn, tb⟩ 1 "mask_of" s_mask_of P_mask_of S_mask_of := by
  obtain ⟨f, fd, hm, F, hb⟩ := h
  exact ⟨f, fd, hm, F, hb, fn_okD F sc_mask_of len_mask_of (fun cdv A outer s H E B hB hr => b_mask_of G cdv A outer s H E B hB hr) m_mask_of⟩
theorem len_lot_of : ∀ cs K', S_lot_of cs K' → cs.length = P_lot_of.length := by (intro cs K' h; repeat (first | (obtain ⟨e, -⟩ := h; subst e; rfl) | obtain ⟨_, h⟩ := h))
theorem j_lot_of (G : Gs K mg) (h : Fx K mg "lot_of" s_lot_of P_lot_of) : Cal P w K mg base ⟨dkn, tb⟩ 1 "lot_of" s_lot_of P_lot_of S_lot_of := by
  obtain ⟨f, fd, hm, F, hb⟩ := h
  exact ⟨f, fd, hm, F, hb, fn_okD F sc_lot_of len_lot_of (fun cdv A outer s H E B hB hr => b_lot_of G cdv A outer s H E B hB hr) m_lot_of⟩
theorem len_is_lot_value : ∀ cs K', S_is_lot_value cs K' → cs.length = P_is_lot_value.length := by (intro cs K' h; repeat (first | (obtain ⟨e, -⟩ := h; subst e; rfl) | obtain ⟨_, h⟩ := h))
theorem j_is_lot_value (G : Gs K mg) (h : Fx K mg "is_lot_value" s_is_lot_value P_is_lot_value) (c_is_between : Cal P w K mg base ⟨dkn, tb⟩ 2 "is_between" s_is_between P_is_between S_is_between) : Cal P w K mg base ⟨dkn, tb⟩ 3 "is_lot_value" s_is_lot_value P_is_lot_value S_is_lot_value := by
  obtain ⟨f, fd, hm, F, hb⟩ := h
  exact ⟨f, fd, hm, F, hb, fn_okD F sc_is_lot_value len_is_lot_value (fun cdv A outer s H E B hB hr => b_is_lot_value G c_is_between cdv A outer s H E B hB hr) m_is_lot_value⟩
theorem len_closed_mask : ∀ cs K', S_closed_mask cs K' → cs.length = P_closed_mask.length := by (intro cs K' h; repeat (first | (obtain ⟨e, -⟩ := h; subst e; rfl) | obtain ⟨_, h⟩ := h))
theorem j_closed_mask (G : Gs K mg) (h : Fx K mg "closed_mask" s_closed_mask P_closed_mask) (c_lot_of : Cal P w K mg base ⟨dkn, tb⟩ 1 "lot_of" s_lot_of P_lot_of S_lot_of) : Cal P w K mg base ⟨dkn, tb⟩ 2 "closed_mask" s_closed_mask P_closed_mask S_closed_mask := by
  obtain ⟨f, fd, hm, F, hb⟩ := h
  exact ⟨f, fd, hm, F, hb, fn_okD F sc_closed_mask len_closed_mask (fun cdv A outer s H E B hB hr => b_closed_mask G c_lot_of cdv A outer s H E B hB hr) m_closed_mask⟩
theorem len_lower_mask : ∀ cs K', S_lower_mask cs K' → cs.length = P_lower_mask.length := by (intro cs K' h; repeat (first | (obtain ⟨e, -⟩ := h; subst e; rfl) | obtain ⟨_, h⟩ := h))
theorem j_lower_mask (G : Gs K mg) (h : Fx K mg "lower_mask" s_lower_mask P_lower_mask) (c_closed_mask : Cal P w K mg base ⟨dkn, tb⟩ 2 "closed_mask" s_closed_mask P_closed_mask S_closed_mask) (c_lows : Cal P w K mg base ⟨dkn, tb⟩ 1 "lows" s_lows P_lows S_lows) : Cal P w K mg base ⟨dkn, tb⟩ 3 "lower_mask" s_lower_mask P_lower_mask S_lower_mask := by
  obtain ⟨f, fd, hm, F, hb⟩ := h
  exact ⟨f, fd, hm, F, hb, fn_okD F sc_lower_mask len_lower_mask (fun cdv A outer s H E B hB hr => b_lower_mask G c_closed_mask c_lows cdv A outer s H E B hB hr) m_lower_mask⟩
theorem len_upper_mask : ∀ cs K', S_upper_mask cs K' → cs.length = P_upper_mask.length := by (intro cs K' h; repeat (first | (obtain ⟨e, -⟩ := h; subst e; rfl) | obtain ⟨_, h⟩ := h))
theorem j_upper_mask (G : Gs K mg) (h : Fx K mg "upper_mask" s_upper_mask P_upper_mask) (c_closed_mask : Cal P w K mg base ⟨dkn, tb⟩ 2 "closed_mask" s_closed_mask P_closed_mask S_closed_mask) (c_highs : Cal P w K mg base ⟨dkn, tb⟩ 1 "highs" s_highs P_highs S_highs) : Cal P w K mg base ⟨dkn, tb⟩ 3 "upper_mask" s_upper_mask P_upper_mask S_upper_mask := by
  obtain ⟨f, fd, hm, F, hb⟩ := h
  exact ⟨f, fd, hm, F, hb, fn_okD F sc_upper_mask len_upper_mask (fun cdv A outer s H E B hB hr => b_upper_mask G c_closed_mask c_highs cdv A outer s H E B hB hr) m_upper_mask⟩
theorem len_is_lower_value : ∀ cs K', S_is_lower_value cs K' → cs.length = P_is_lower_value.length := by (intro cs K' h; repeat (first | (obtain ⟨e, -⟩ := h; subst e; rfl) | obtain ⟨_, h⟩ := h))
theorem j_is_lower_value (G : Gs K mg) (h : Fx K mg "is_lower_value" s_is_lower_value P_is_lower_value) (c_is_lot_value : Cal P w K mg base ⟨dkn, tb⟩ 3 "is_lot_value" s_is_lot_value P_is_lot_value S_is_lot_value) (c_lower_mask : Cal P w K mg base ⟨dkn, tb⟩ 3 "lower_mask" s_lower_mask P_lower_mask S_lower_mask) (c_mask_of : Cal P w K mg base ⟨dkn, tb⟩ 1 "mask_of" s_mask_of P_mask_of S_mask_of) : Cal P w K mg base ⟨dkn, tb⟩ 4 "is_lower_value" s_is_lower_value P_is_lower_value S_is_lower_value := by
  obtain ⟨f, fd, hm, F, hb⟩ := h
  exact ⟨f, fd, hm, F, hb, fn_okD F sc_is_lower_value len_is_lower_value (fun cdv A outer s H E B hB hr => b_is_lower_value G c_is_lot_value c_lower_mask c_mask_of cdv A outer s H E B hB hr) m_is_lower_value⟩
theorem len_is_upper_value : ∀ cs K', S_is_upper_value cs K' → cs.length = P_is_upper_value.length := by (intro cs K' h; repeat (first | (obtain ⟨e, -⟩ := h; subst e; rfl) | obtain ⟨_, h⟩ := h))
theorem j_is_upper_value (G : Gs K mg) (h : Fx K mg "is_upper_value" s_is_upper_value P_is_upper_value) (c_is_lot_value : Cal P w K mg base ⟨dkn, tb⟩ 3 "is_lot_value" s_is_lot_value P_is_lot_value S_is_lot_value) (c_upper_mask : Cal P w K mg base ⟨dkn, tb⟩ 3 "upper_mask" s_upper_mask P_upper_mask S_upper_mask) (c_mask_of : Cal P w K mg base ⟨dkn, tb⟩ 1 "mask_of" s_mask_of P_mask_of S_mask_of) : Cal P w K mg base ⟨dkn, tb⟩ 4 "is_upper_value" s_is_upper_value P_is_upper_value S_is_upper_value := by
  obtain ⟨f, fd, hm, F, hb⟩ := h
  exact ⟨f, fd, hm, F, hb, fn_okD F sc_is_upper_value len_is_upper_value (fun cdv A outer s H E B hB hr => b_is_upper_value G c_is_lot_value c_upper_mask c_mask_of cdv A outer s H E B hB hr) m_is_upper_value⟩
theorem len_is_kind_value : ∀ cs K', S_is_kind_value cs K' → cs.length = P_is_kind_value.length := by (intro cs K' h; repeat (first | (obtain ⟨e, -⟩ := h; subst e; rfl) | obtain ⟨_, h⟩ := h))
theorem j_is_kind_value (G : Gs K mg) (h : Fx K mg "is_kind_value" s_is_kind_value P_is_kind_value) (c_is_lower_value : Cal P w K mg base ⟨dkn, tb⟩ 4 "is_lower_value" s_is_lower_value P_is_lower_value S_is_lower_value) (c_is_upper_value : Cal P w K mg base ⟨dkn, tb⟩ 4 "is_upper_value" s_is_upper_value P_is_upper_value S_is_upper_value) : Cal P w K mg base ⟨dkn, tb⟩ 5 "is_kind_value" s_is_kind_value P_is_kind_value S_is_kind_value := by
  obtain ⟨f, fd, hm, F, hb⟩ := h
  exact ⟨f, fd, hm, F, hb, fn_okD F sc_is_kind_value len_is_kind_value (fun cdv A outer s H E B hB hr => b_is_kind_value G c_is_lower_value c_is_upper_value cdv A outer s H E B hB hr) m_is_kind_value⟩
theorem len_standing_of : ∀ cs K', S_standing_of cs K' → cs.length = P_standing_of.length := by (intro cs K' h; repeat (first | (obtain ⟨e, -⟩ := h; subst e; rfl) | obtain ⟨_, h⟩ := h))
theorem j_standing_of (G : Gs K mg) (h : Fx K mg "standing_of" s_standing_of P_standing_of) : Cal P w K mg base ⟨dkn, tb⟩ 1 "standing_of" s_standing_of P_standing_of S_standing_of := by
  obtain ⟨f, fd, hm, F, hb⟩ := h
  exact ⟨f, fd, hm, F, hb, fn_okD F sc_standing_of len_standing_of (fun cdv A outer s H E B hB hr => b_standing_of G cdv A outer s H E B hB hr) m_standing_of⟩
theorem len_is_deed_value : ∀ cs K', S_is_deed_value cs K' → cs.length = P_is_deed_value.length := by (intro cs K' h; repeat (first | (obtain ⟨e, -⟩ := h; subst e; rfl) | obtain ⟨_, h⟩ := h))
theorem j_is_deed_value (G : Gs K mg) (h : Fx K mg "is_deed_value" s_is_deed_value P_is_deed_value) (c_is_between : Cal P w K mg base ⟨dkn, tb⟩ 2 "is_between" s_is_between P_is_between S_is_between) : Cal P w K mg base ⟨dkn, tb⟩ 3 "is_deed_value" s_is_deed_value P_is_deed_value S_is_deed_value := by
  obtain ⟨f, fd, hm, F, hb⟩ := h
  exact ⟨f, fd, hm, F, hb, fn_okD F sc_is_deed_value len_is_deed_value (fun cdv A outer s H E B hB hr => b_is_deed_value G c_is_between cdv A outer s H E B hB hr) m_is_deed_value⟩
theorem len_is_script_value : ∀ cs K', S_is_script_value cs K' → cs.length = P_is_script_value.length := by (intro cs K' h; repeat (first | (obtain ⟨e, -⟩ := h; subst e; rfl) | obtain ⟨_, h⟩ := h))
theorem j_is_script_value (G : Gs K mg) (h : Fx K mg "is_script_value" s_is_script_value P_is_script_value) (c_is_deed_value : Cal P w K mg base ⟨dkn, tb⟩ 3 "is_deed_value" s_is_deed_value P_is_deed_value S_is_deed_value) : Cal P w K mg base ⟨dkn, tb⟩ 4 "is_script_value" s_is_script_value P_is_script_value S_is_script_value := by
  obtain ⟨f, fd, hm, F, hb⟩ := h
  exact ⟨f, fd, hm, F, hb, fn_okD F sc_is_script_value len_is_script_value (fun cdv A outer s H E B hB hr => b_is_script_value G c_is_deed_value cdv A outer s H E B hB hr) m_is_script_value⟩
theorem len_need_script : ∀ cs K', S_need_script cs K' → cs.length = P_need_script.length := by (intro cs K' h; repeat (first | (obtain ⟨e, -⟩ := h; subst e; rfl) | obtain ⟨_, h⟩ := h))
theorem j_need_script (G : Gs K mg) (h : Fx K mg "need_script" s_need_script P_need_script) (c_is_script_value : Cal P w K mg base ⟨dkn, tb⟩ 4 "is_script_value" s_is_script_value P_is_script_value S_is_script_value) : Cal P w K mg base ⟨dkn, tb⟩ 5 "need_script" s_need_script P_need_script S_need_script := by
  obtain ⟨f, fd, hm, F, hb⟩ := h
  exact ⟨f, fd, hm, F, hb, fn_okD F sc_need_script len_need_script (fun cdv A outer s H E B hB hr => b_need_script G c_is_script_value cdv A outer s H E B hB hr) m_need_script⟩
theorem len_left_by : ∀ cs K', S_left_by cs K' → cs.length = P_left_by.length := by (intro cs K' h; repeat (first | (obtain ⟨e, -⟩ := h; subst e; rfl) | obtain ⟨_, h⟩ := h))
theorem j_left_by (G : Gs K mg) (h : Fx K mg "left_by" s_left_by P_left_by) : Cal P w K mg base ⟨dkn, tb⟩ 1 "left_by" s_left_by P_left_by S_left_by := by
  obtain ⟨f, fd, hm, F, hb⟩ := h
  exact ⟨f, fd, hm, F, hb, fn_okD F sc_left_by len_left_by (fun cdv A outer s H E B hB hr => b_left_by G cdv A outer s H E B hB hr) m_left_by⟩
theorem len_does_reach : ∀ cs K', S_does_reach cs K' → cs.length = P_does_reach.length := by (intro cs K' h; repeat (first | (obtain ⟨e, -⟩ := h; subst e; rfl) | obtain ⟨_, h⟩ := h))
theorem j_does_reach (G : Gs K mg) (h : Fx K mg "does_reach" s_does_reach P_does_reach) : Cal P w K mg base ⟨dkn, tb⟩ 1 "does_reach" s_does_reach P_does_reach S_does_reach := by
  obtain ⟨f, fd, hm, F, hb⟩ := h
  exact ⟨f, fd, hm, F, hb, fn_okD F sc_does_reach len_does_reach (fun cdv A outer s H E B hB hr => b_does_reach G cdv A outer s H E B hB hr) m_does_reach⟩
theorem len_are_allowed : ∀ cs K', S_are_allowed cs K' → cs.length = P_are_allowed.length := by (intro cs K' h; repeat (first | (obtain ⟨e, -⟩ := h; subst e; rfl) | obtain ⟨_, h⟩ := h))
theorem j_are_allowed (G : Gs K mg) (h : Fx K mg "are_allowed" s_are_allowed P_are_allowed) : Cal P w K mg base ⟨dkn, tb⟩ 1 "are_allowed" s_are_allowed P_are_allowed S_are_allowed := by
  obtain ⟨f, fd, hm, F, hb⟩ := h
  exact ⟨f, fd, hm, F, hb, fn_okD F sc_are_allowed len_are_allowed (fun cdv A outer s H E B hB hr => b_are_allowed G cdv A outer s H E B hB hr) m_are_allowed⟩
theorem len_is_ask : ∀ cs K', S_is_ask cs K' → cs.length = P_is_ask.length := by (intro cs K' h; repeat (first | (obtain ⟨e, -⟩ := h; subst e; rfl) | obtain ⟨_, h⟩ := h))
theorem j_is_ask (G : Gs K mg) (h : Fx K mg "is_ask" s_is_ask P_is_ask) (c_is_kind_value : Cal P w K mg base ⟨dkn, tb⟩ 5 "is_kind_value" s_is_kind_value P_is_kind_value S_is_kind_value) (c_are_allowed : Cal P w K mg base ⟨dkn, tb⟩ 1 "are_allowed" s_are_allowed P_are_allowed S_are_allowed) : Cal P w K mg base ⟨dkn, tb⟩ 6 "is_ask" s_is_ask P_is_ask S_is_ask := by
  obtain ⟨f, fd, hm, F, hb⟩ := h
  exact ⟨f, fd, hm, F, hb, fn_okD F sc_is_ask len_is_ask (fun cdv A outer s H E B hB hr => b_is_ask G c_is_kind_value c_are_allowed cdv A outer s H E B hB hr) m_is_ask⟩
theorem len_are_asks_value : ∀ cs K', S_are_asks_value cs K' → cs.length = P_are_asks_value.length := by (intro cs K' h; repeat (first | (obtain ⟨e, -⟩ := h; subst e; rfl) | obtain ⟨_, h⟩ := h))
theorem j_are_asks_value (G : Gs K mg) (h : Fx K mg "are_asks_value" s_are_asks_value P_are_asks_value) (c_is_ask : Cal P w K mg base ⟨dkn, tb⟩ 6 "is_ask" s_is_ask P_is_ask S_is_ask) : Cal P w K mg base ⟨dkn, tb⟩ 7 "are_asks_value" s_are_asks_value P_are_asks_value S_are_asks_value := by
  obtain ⟨f, fd, hm, F, hb⟩ := h
  exact ⟨f, fd, hm, F, hb, fn_okD F sc_are_asks_value len_are_asks_value (fun cdv A outer s H E B hB hr => b_are_asks_value G c_is_ask cdv A outer s H E B hB hr) m_are_asks_value⟩
theorem len_are_met : ∀ cs K', S_are_met cs K' → cs.length = P_are_met.length := by (intro cs K' h; repeat (first | (obtain ⟨e, -⟩ := h; subst e; rfl) | obtain ⟨_, h⟩ := h))
theorem j_are_met (G : Gs K mg) (h : Fx K mg "are_met" s_are_met P_are_met) (l_does_meet_lam : LamP P w K mg base ⟨dkn, tb⟩ 3 L_does_meet_lam S_lam) : Cal P w K mg base ⟨dkn, tb⟩ 4 "are_met" s_are_met P_are_met S_are_met := by
  obtain ⟨f, fd, hm, F, hb⟩ := h
  exact ⟨f, fd, hm, F, hb, fn_okD F sc_are_met len_are_met (fun cdv A outer s H E B hB hr => b_are_met G l_does_meet_lam cdv A outer s H E B hB hr) m_are_met⟩
theorem len_need_asks : ∀ cs K', S_need_asks cs K' → cs.length = P_need_asks.length := by (intro cs K' h; repeat (first | (obtain ⟨e, -⟩ := h; subst e; rfl) | obtain ⟨_, h⟩ := h))
theorem j_need_asks (G : Gs K mg) (h : Fx K mg "need_asks" s_need_asks P_need_asks) (c_are_asks_value : Cal P w K mg base ⟨dkn, tb⟩ 7 "are_asks_value" s_are_asks_value P_are_asks_value S_are_asks_value) : Cal P w K mg base ⟨dkn, tb⟩ 8 "need_asks" s_need_asks P_need_asks S_need_asks := by
  obtain ⟨f, fd, hm, F, hb⟩ := h
  exact ⟨f, fd, hm, F, hb, fn_okD F sc_need_asks len_need_asks (fun cdv A outer s H E B hB hr => b_need_asks G c_are_asks_value cdv A outer s H E B hB hr) m_need_asks⟩
theorem len_does_meet : ∀ cs K', S_does_meet cs K' → cs.length = P_does_meet.length := by (intro cs K' h; repeat (first | (obtain ⟨e, -⟩ := h; subst e; rfl) | obtain ⟨_, h⟩ := h))
theorem j_does_meet (G : Gs K mg) {cc cP : Addr} (h : ∃ f fd, mg "does_meet" = some (.ref f) ∧ FnP K "does_meet" s_does_meet f fd ∧ Binds K fd P_does_meet [] ∧ fd.code = .ref cc) (c_are_met : Cal P w K mg base ⟨dkn, tb⟩ 4 "are_met" s_are_met P_are_met S_are_met) (TB : LamX.TabB base mg cc cP) (hmT : (cP, ("does_meet.<locals>.<lambda>" : Str)) ∈ tb) (hu : ∀ p ∈ tb, p.1 = cP → p.2 = ("does_meet.<locals>.<lambda>" : Str)) : Cal P w K mg base ⟨dkn, tb⟩ 5 "does_meet" s_does_meet P_does_meet S_does_meet := by
  obtain ⟨f, fd, hm, F, hb, hc⟩ := h
  exact ⟨f, fd, hm, F, hb, fn_okC F hc sc_does_meet len_does_meet (fun A outer s H E B hB hr => b_does_meet G c_are_met TB hmT hu A outer s H E B hB hr) m_does_meet⟩
theorem jl_does_meet_lam (G : Gs K mg) (c_standing_of : Cal P w K mg base ⟨dkn, tb⟩ 1 "standing_of" s_standing_of P_standing_of S_standing_of) : LamP P w K mg base ⟨dkn, tb⟩ 2 L_does_meet_lam S_lam :=
  lam_ok sc_la_does_meet_lam (fun _ _ _ _ us hl => match us, hl with | [_], _ => rfl) lam_args (fun cl c' f A outer s H B hB hr => b_does_meet_lam G c_standing_of cl c' f A outer s H B hB hr) lam_main
theorem len_meets_asks : ∀ cs K', S_meets_asks cs K' → cs.length = P_meets_asks.length := by (intro cs K' h; repeat (first | (obtain ⟨e, -⟩ := h; subst e; rfl) | obtain ⟨_, h⟩ := h))
theorem j_meets_asks (G : Gs K mg) (h : Fx K mg "meets_asks" s_meets_asks P_meets_asks) (c_need_book : Cal P w K mg base ⟨dkn, tb⟩ 5 "need_book" s_need_book P_need_book S_need_book) (c_need_script : Cal P w K mg base ⟨dkn, tb⟩ 5 "need_script" s_need_script P_need_script S_need_script) (c_need_asks : Cal P w K mg base ⟨dkn, tb⟩ 8 "need_asks" s_need_asks P_need_asks S_need_asks) (c_closing_of : Cal P w K mg base ⟨dkn, tb⟩ 2 "closing_of" s_closing_of P_closing_of S_closing_of) (c_does_meet : Cal P w K mg base ⟨dkn, tb⟩ 5 "does_meet" s_does_meet P_does_meet S_does_meet) : Cal P w K mg base ⟨dkn, tb⟩ 9 "meets_asks" s_meets_asks P_meets_asks S_meets_asks := by
  obtain ⟨f, fd, hm, F, hb⟩ := h
  exact ⟨f, fd, hm, F, hb, fn_okD F sc_meets_asks len_meets_asks (fun cdv A outer s H E B hB hr => b_meets_asks G c_need_book c_need_script c_need_asks c_closing_of c_does_meet cdv A outer s H E B hB hr) m_meets_asks⟩
theorem len_reaching : ∀ cs K', S_reaching cs K' → cs.length = P_reaching.length := by (intro cs K' h; repeat (first | (obtain ⟨e, -⟩ := h; subst e; rfl) | obtain ⟨_, h⟩ := h))
theorem j_reaching (G : Gs K mg) (h : Fx K mg "reaching" s_reaching P_reaching) (c_does_reach : Cal P w K mg base ⟨dkn, tb⟩ 1 "does_reach" s_does_reach P_does_reach S_does_reach) : Cal P w K mg base ⟨dkn, tb⟩ 2 "reaching" s_reaching P_reaching S_reaching := by
  obtain ⟨f, fd, hm, F, hb⟩ := h
  exact ⟨f, fd, hm, F, hb, fn_okD F sc_reaching len_reaching (fun cdv A outer s H E B hB hr => b_reaching G c_does_reach cdv A outer s H E B hB hr) m_reaching⟩
theorem len_again : ∀ cs K', S_again cs K' → cs.length = P_again.length := by (intro cs K' h; repeat (first | (obtain ⟨e, -⟩ := h; subst e; rfl) | obtain ⟨_, h⟩ := h))
theorem j_again (G : Gs K mg) (h : Fx K mg "again" s_again P_again) : Cal P w K mg base ⟨dkn, tb⟩ 1 "again" s_again P_again S_again := by
  obtain ⟨f, fd, hm, F, hb⟩ := h
  exact ⟨f, fd, hm, F, hb, fn_okD F sc_again len_again (fun cdv A outer s H E B hB hr => b_again G cdv A outer s H E B hB hr) m_again⟩
theorem len_first_echo : ∀ cs K', S_first_echo cs K' → cs.length = P_first_echo.length := by (intro cs K' h; repeat (first | (obtain ⟨e, -⟩ := h; subst e; rfl) | obtain ⟨_, h⟩ := h))
theorem j_first_echo (G : Gs K mg) (h : Fx K mg "first_echo" s_first_echo P_first_echo) (c_reaching : Cal P w K mg base ⟨dkn, tb⟩ 2 "reaching" s_reaching P_reaching S_reaching) (c_left_by : Cal P w K mg base ⟨dkn, tb⟩ 1 "left_by" s_left_by P_left_by S_left_by) : Cal P w K mg base ⟨dkn, tb⟩ 3 "first_echo" s_first_echo P_first_echo S_first_echo := by
  obtain ⟨f, fd, hm, F, hb⟩ := h
  exact ⟨f, fd, hm, F, hb, fn_okD F sc_first_echo len_first_echo (fun cdv A outer s H E B hB hr => b_first_echo G c_reaching c_left_by cdv A outer s H E B hB hr) m_first_echo⟩
theorem len_need_question : ∀ cs K', S_need_question cs K' → cs.length = P_need_question.length := by (intro cs K' h; repeat (first | (obtain ⟨e, -⟩ := h; subst e; rfl) | obtain ⟨_, h⟩ := h))
theorem j_need_question (G : Gs K mg) (h : Fx K mg "need_question" s_need_question P_need_question) (c_need_book : Cal P w K mg base ⟨dkn, tb⟩ 5 "need_book" s_need_book P_need_book S_need_book) (c_need_script : Cal P w K mg base ⟨dkn, tb⟩ 5 "need_script" s_need_script P_need_script S_need_script) (c_need_asks : Cal P w K mg base ⟨dkn, tb⟩ 8 "need_asks" s_need_asks P_need_asks S_need_asks) (c_closing_of : Cal P w K mg base ⟨dkn, tb⟩ 2 "closing_of" s_closing_of P_closing_of S_closing_of) (c_does_meet : Cal P w K mg base ⟨dkn, tb⟩ 5 "does_meet" s_does_meet P_does_meet S_does_meet) : Cal P w K mg base ⟨dkn, tb⟩ 9 "need_question" s_need_question P_need_question S_need_question := by
  obtain ⟨f, fd, hm, F, hb⟩ := h
  exact ⟨f, fd, hm, F, hb, fn_okD F sc_need_question len_need_question (fun cdv A outer s H E B hB hr => b_need_question G c_need_book c_need_script c_need_asks c_closing_of c_does_meet cdv A outer s H E B hB hr) m_need_question⟩
theorem len_judge_echo : ∀ cs K', S_judge_echo cs K' → cs.length = P_judge_echo.length := by (intro cs K' h; repeat (first | (obtain ⟨e, -⟩ := h; subst e; rfl) | obtain ⟨_, h⟩ := h))
theorem j_judge_echo (G : Gs K mg) (h : Fx K mg "judge_echo" s_judge_echo P_judge_echo) (c_need_question : Cal P w K mg base ⟨dkn, tb⟩ 9 "need_question" s_need_question P_need_question S_need_question) (c_first_echo : Cal P w K mg base ⟨dkn, tb⟩ 3 "first_echo" s_first_echo P_first_echo S_first_echo) : Cal P w K mg base ⟨dkn, tb⟩ 10 "judge_echo" s_judge_echo P_judge_echo S_judge_echo := by
  obtain ⟨f, fd, hm, F, hb⟩ := h
  exact ⟨f, fd, hm, F, hb, fn_okD F sc_judge_echo len_judge_echo (fun cdv A outer s H E B hB hr => b_judge_echo G c_need_question c_first_echo cdv A outer s H E B hB hr) m_judge_echo⟩
theorem len_is_echo : ∀ cs K', S_is_echo cs K' → cs.length = P_is_echo.length := by (intro cs K' h; repeat (first | (obtain ⟨e, -⟩ := h; subst e; rfl) | obtain ⟨_, h⟩ := h))
theorem j_is_echo (G : Gs K mg) (h : Fx K mg "is_echo" s_is_echo P_is_echo) (c_is_between : Cal P w K mg base ⟨dkn, tb⟩ 2 "is_between" s_is_between P_is_between S_is_between) (c_does_meet : Cal P w K mg base ⟨dkn, tb⟩ 5 "does_meet" s_does_meet P_does_meet S_does_meet) (c_again : Cal P w K mg base ⟨dkn, tb⟩ 1 "again" s_again P_again S_again) : Cal P w K mg base ⟨dkn, tb⟩ 6 "is_echo" s_is_echo P_is_echo S_is_echo := by
  obtain ⟨f, fd, hm, F, hb⟩ := h
  exact ⟨f, fd, hm, F, hb, fn_okD F sc_is_echo len_is_echo (fun cdv A outer s H E B hB hr => b_is_echo G c_is_between c_does_meet c_again cdv A outer s H E B hB hr) m_is_echo⟩
theorem len_echo_holds : ∀ cs K', S_echo_holds cs K' → cs.length = P_echo_holds.length := by (intro cs K' h; repeat (first | (obtain ⟨e, -⟩ := h; subst e; rfl) | obtain ⟨_, h⟩ := h))
theorem j_echo_holds (G : Gs K mg) (h : Fx K mg "echo_holds" s_echo_holds P_echo_holds) (c_need_question : Cal P w K mg base ⟨dkn, tb⟩ 9 "need_question" s_need_question P_need_question S_need_question) (c_first_echo : Cal P w K mg base ⟨dkn, tb⟩ 3 "first_echo" s_first_echo P_first_echo S_first_echo) (c_is_echo : Cal P w K mg base ⟨dkn, tb⟩ 6 "is_echo" s_is_echo P_is_echo S_is_echo) : Cal P w K mg base ⟨dkn, tb⟩ 10 "echo_holds" s_echo_holds P_echo_holds S_echo_holds := by
  obtain ⟨f, fd, hm, F, hb⟩ := h
  exact ⟨f, fd, hm, F, hb, fn_okD F sc_echo_holds len_echo_holds (fun cdv A outer s H E B hB hr => b_echo_holds G c_need_question c_first_echo c_is_echo cdv A outer s H E B hB hr) m_echo_holds⟩
theorem len__law_deck : ∀ cs K', S_deck cs K' → cs.length = P__law_deck.length := by (intro cs K' h; repeat (first | (obtain ⟨e, -⟩ := h; subst e; rfl) | obtain ⟨_, h⟩ := h))
theorem j__law_deck (G : Gs K mg) (h : Fx K mg "_law_deck" s__law_deck P__law_deck) : Cal P w K mg base ⟨dkn, tb⟩ 1 "_law_deck" s__law_deck P__law_deck S_deck := by
  obtain ⟨f, fd, hm, F, hb⟩ := h
  exact ⟨f, fd, hm, F, hb, fn_okD F sc__law_deck len__law_deck (fun cdv A outer s H E B hB hr => b__law_deck G cdv A outer s H E B hB hr) m_deck⟩
theorem j__law_draw (G : Gs K mg) (h : Fx K mg "_law_draw" s__law_draw P__law_draw) : Cal P w K mg base ⟨dkn, tb⟩ 1 "_law_draw" s__law_draw P__law_draw S_draw := by
  obtain ⟨f, fd, hm, F, hb⟩ := h
  exact ⟨f, fd, hm, F, hb, ok__law_draw F G⟩
theorem len__law_pick : ∀ cs K', S_pick cs K' → cs.length = P__law_pick.length := by (rintro cs K' ⟨ds, rfl | rfl, _⟩ <;> rfl)
theorem j__law_pick (G : Gs K mg) (h : Fx K mg "_law_pick" s__law_pick P__law_pick) (c__law_draw : Cal P w K mg base ⟨dkn, tb⟩ 1 "_law_draw" s__law_draw P__law_draw S_draw) : Cal P w K mg base ⟨dkn, tb⟩ 2 "_law_pick" s__law_pick P__law_pick S_pick := by
  obtain ⟨f, fd, hm, F, hb⟩ := h
  exact ⟨f, fd, hm, F, hb, fn_okD F sc__law_pick len__law_pick (fun cdv A outer s H E B hB hr => b__law_pick G c__law_draw cdv A outer s H E B hB hr) m_pick⟩
theorem j__law_same (G : Gs K mg) (h : Fx K mg "_law_same" s__law_same P__law_same) : Cal P w K mg base ⟨dkn, tb⟩ 6 "_law_same" s__law_same P__law_same S_same := by
  obtain ⟨f, fd, hm, F, hb⟩ := h
  have c0 : Cal P w K mg base ⟨dkn, tb⟩ 1 "_law_same" s__law_same P__law_same (fun _ _ => False) := ⟨f, fd, hm, F, hb, fn_no F sc__law_same⟩
  have c1 : Cal P w K mg base ⟨dkn, tb⟩ 2 "_law_same" s__law_same P__law_same S_sameA := ⟨f, fd, hm, F, hb, fn_okD F sc__law_same (by (rintro cs K' (⟨d, rfl, _⟩ | ⟨a, b, rfl, _⟩) <;> rfl)) (fun cdv A outer s H E B hB hr => b__law_same (lvr := 1) (by decide) G c0 cdv A outer s H E B hB hr) m_sameA⟩
  have c2 : Cal P w K mg base ⟨dkn, tb⟩ 3 "_law_same" s__law_same P__law_same S_same := ⟨f, fd, hm, F, hb, fn_okD F sc__law_same (by (rintro cs K' ((⟨d, rfl, _⟩ | ⟨a, b, rfl, _⟩) | ⟨d, rfl, _⟩) <;> rfl)) (fun cdv A outer s H E B hB hr => b__law_same (lvr := 2) (by decide) G c1 cdv A outer s H E B hB hr) m_same⟩
  exact c2.mono (by decide)
theorem len__law_book : ∀ cs K', S_book cs K' → cs.length = P__law_book.length := by (intro cs K' h; repeat (first | (obtain ⟨e, -⟩ := h; subst e; rfl) | obtain ⟨_, h⟩ := h))
theorem j__law_book (G : Gs K mg) (h : Fx K mg "_law_book" s__law_book P__law_book) (c__law_pick : Cal P w K mg base ⟨dkn, tb⟩ 2 "_law_pick" s__law_pick P__law_pick S_pick) (c__law_draw : Cal P w K mg base ⟨dkn, tb⟩ 1 "_law_draw" s__law_draw P__law_draw S_draw) : Cal P w K mg base ⟨dkn, tb⟩ 3 "_law_book" s__law_book P__law_book S_book := by
  obtain ⟨f, fd, hm, F, hb⟩ := h
  exact ⟨f, fd, hm, F, hb, fn_okD F sc__law_book len__law_book (fun cdv A outer s H E B hB hr => b__law_book G c__law_pick c__law_draw cdv A outer s H E B hB hr) m_book⟩
theorem len__law_world : ∀ cs K', S_world cs K' → cs.length = P__law_world.length := by (intro cs K' h; repeat (first | (obtain ⟨e, -⟩ := h; subst e; rfl) | obtain ⟨_, h⟩ := h))
theorem j__law_world (G : Gs K mg) (h : Fx K mg "_law_world" s__law_world P__law_world) : Cal P w K mg base ⟨dkn, tb⟩ 1 "_law_world" s__law_world P__law_world S_world := by
  obtain ⟨f, fd, hm, F, hb⟩ := h
  exact ⟨f, fd, hm, F, hb, fn_okD F sc__law_world len__law_world (fun cdv A outer s H E B hB hr => b__law_world G cdv A outer s H E B hB hr) m_world⟩
theorem len__law_behind : ∀ cs K', S_behind cs K' → cs.length = P__law_behind.length := by (intro cs K' h; repeat (first | (obtain ⟨e, -⟩ := h; subst e; rfl) | obtain ⟨_, h⟩ := h))
theorem j__law_behind (G : Gs K mg) (h : Fx K mg "_law_behind" s__law_behind P__law_behind) : Cal P w K mg base ⟨dkn, tb⟩ 1 "_law_behind" s__law_behind P__law_behind S_behind := by
  obtain ⟨f, fd, hm, F, hb⟩ := h
  exact ⟨f, fd, hm, F, hb, fn_okD F sc__law_behind len__law_behind (fun cdv A outer s H E B hB hr => b__law_behind G cdv A outer s H E B hB hr) m_behind⟩
theorem len__law_state : ∀ cs K', S_state cs K' → cs.length = P__law_state.length := by (intro cs K' h; repeat (first | (obtain ⟨e, -⟩ := h; subst e; rfl) | obtain ⟨_, h⟩ := h))
theorem j__law_state (G : Gs K mg) (h : Fx K mg "_law_state" s__law_state P__law_state) (c__law_behind : Cal P w K mg base ⟨dkn, tb⟩ 1 "_law_behind" s__law_behind P__law_behind S_behind) : Cal P w K mg base ⟨dkn, tb⟩ 2 "_law_state" s__law_state P__law_state S_state := by
  obtain ⟨f, fd, hm, F, hb⟩ := h
  exact ⟨f, fd, hm, F, hb, fn_okD F sc__law_state len__law_state (fun cdv A outer s H E B hB hr => b__law_state G c__law_behind cdv A outer s H E B hB hr) m_state⟩
theorem len__law_bad : ∀ cs K', S_bad cs K' → cs.length = P__law_bad.length := by (intro cs K' h; repeat (first | (obtain ⟨e, -⟩ := h; subst e; rfl) | obtain ⟨_, h⟩ := h))
theorem j__law_bad (G : Gs K mg) (h : Fx K mg "_law_bad" s__law_bad P__law_bad) : Cal P w K mg base ⟨dkn, tb⟩ 1 "_law_bad" s__law_bad P__law_bad S_bad := by
  obtain ⟨f, fd, hm, F, hb⟩ := h
  exact ⟨f, fd, hm, F, hb, fn_okD F sc__law_bad len__law_bad (fun cdv A outer s H E B hB hr => b__law_bad G cdv A outer s H E B hB hr) m_bad⟩
theorem len__law_meets : ∀ cs K', S_lmeets cs K' → cs.length = P__law_meets.length := by (intro cs K' h; repeat (first | (obtain ⟨e, -⟩ := h; subst e; rfl) | obtain ⟨_, h⟩ := h))
theorem j__law_meets (G : Gs K mg) (h : Fx K mg "_law_meets" s__law_meets P__law_meets) : Cal P w K mg base ⟨dkn, tb⟩ 1 "_law_meets" s__law_meets P__law_meets S_lmeets := by
  obtain ⟨f, fd, hm, F, hb⟩ := h
  exact ⟨f, fd, hm, F, hb, fn_okD F sc__law_meets len__law_meets (fun cdv A outer s H E B hB hr => b__law_meets G cdv A outer s H E B hB hr) m_lmeets⟩
theorem len__law_script : ∀ cs K', S_script cs K' → cs.length = P__law_script.length := by (intro cs K' h; repeat (first | (obtain ⟨e, -⟩ := h; subst e; rfl) | obtain ⟨_, h⟩ := h))
theorem j__law_script (G : Gs K mg) (h : Fx K mg "_law_script" s__law_script P__law_script) (c__law_draw : Cal P w K mg base ⟨dkn, tb⟩ 1 "_law_draw" s__law_draw P__law_draw S_draw) (c__law_pick : Cal P w K mg base ⟨dkn, tb⟩ 2 "_law_pick" s__law_pick P__law_pick S_pick) : Cal P w K mg base ⟨dkn, tb⟩ 3 "_law_script" s__law_script P__law_script S_script := by
  obtain ⟨f, fd, hm, F, hb⟩ := h
  exact ⟨f, fd, hm, F, hb, fn_okD F sc__law_script len__law_script (fun cdv A outer s H E B hB hr => b__law_script G c__law_draw c__law_pick cdv A outer s H E B hB hr) m_script⟩
theorem len__law_deeds : ∀ cs K', S_deeds cs K' → cs.length = P__law_deeds.length := by (intro cs K' h; repeat (first | (obtain ⟨e, -⟩ := h; subst e; rfl) | obtain ⟨_, h⟩ := h))
theorem j__law_deeds (G : Gs K mg) (h : Fx K mg "_law_deeds" s__law_deeds P__law_deeds) : Cal P w K mg base ⟨dkn, tb⟩ 1 "_law_deeds" s__law_deeds P__law_deeds S_deeds := by
  obtain ⟨f, fd, hm, F, hb⟩ := h
  exact ⟨f, fd, hm, F, hb, fn_okD F sc__law_deeds len__law_deeds (fun cdv A outer s H E B hB hr => b__law_deeds G cdv A outer s H E B hB hr) m_deeds⟩
theorem len__law_is_integer : ∀ cs K', S_isint cs K' → cs.length = P__law_is_integer.length := by (intro cs K' h; repeat (first | (obtain ⟨e, -⟩ := h; subst e; rfl) | obtain ⟨_, h⟩ := h))
theorem j__law_is_integer (G : Gs K mg) (h : Fx K mg "_law_is_integer" s__law_is_integer P__law_is_integer) : Cal P w K mg base ⟨dkn, tb⟩ 1 "_law_is_integer" s__law_is_integer P__law_is_integer S_isint := by
  obtain ⟨f, fd, hm, F, hb⟩ := h
  exact ⟨f, fd, hm, F, hb, fn_okD F sc__law_is_integer len__law_is_integer (fun cdv A outer s H E B hB hr => b__law_is_integer G cdv A outer s H E B hB hr) m_isint⟩
theorem len__law_met_asks : ∀ cs K', S_met cs K' → cs.length = P__law_met_asks.length := by (intro cs K' h; repeat (first | (obtain ⟨e, -⟩ := h; subst e; rfl) | obtain ⟨_, h⟩ := h))
theorem j__law_met_asks (G : Gs K mg) (h : Fx K mg "_law_met_asks" s__law_met_asks P__law_met_asks) (c__law_state : Cal P w K mg base ⟨dkn, tb⟩ 2 "_law_state" s__law_state P__law_state S_state) (c__law_draw : Cal P w K mg base ⟨dkn, tb⟩ 1 "_law_draw" s__law_draw P__law_draw S_draw) : Cal P w K mg base ⟨dkn, tb⟩ 3 "_law_met_asks" s__law_met_asks P__law_met_asks S_met := by
  obtain ⟨f, fd, hm, F, hb⟩ := h
  exact ⟨f, fd, hm, F, hb, fn_okD F sc__law_met_asks len__law_met_asks (fun cdv A outer s H E B hB hr => b__law_met_asks G c__law_state c__law_draw cdv A outer s H E B hB hr) m_met⟩
theorem len__law_echoed : ∀ cs K', S_echoed cs K' → cs.length = P__law_echoed.length := by (intro cs K' h; repeat (first | (obtain ⟨e, -⟩ := h; subst e; rfl) | obtain ⟨_, h⟩ := h))
theorem j__law_echoed (G : Gs K mg) (h : Fx K mg "_law_echoed" s__law_echoed P__law_echoed) (c__law_deeds : Cal P w K mg base ⟨dkn, tb⟩ 1 "_law_deeds" s__law_deeds P__law_deeds S_deeds) (c__law_script : Cal P w K mg base ⟨dkn, tb⟩ 3 "_law_script" s__law_script P__law_script S_script) (c__law_pick : Cal P w K mg base ⟨dkn, tb⟩ 2 "_law_pick" s__law_pick P__law_pick S_pick) (c__law_draw : Cal P w K mg base ⟨dkn, tb⟩ 1 "_law_draw" s__law_draw P__law_draw S_draw) : Cal P w K mg base ⟨dkn, tb⟩ 4 "_law_echoed" s__law_echoed P__law_echoed S_echoed := by
  obtain ⟨f, fd, hm, F, hb⟩ := h
  exact ⟨f, fd, hm, F, hb, fn_okD F sc__law_echoed len__law_echoed (fun cdv A outer s H E B hB hr => b__law_echoed G c__law_deeds c__law_script c__law_pick c__law_draw cdv A outer s H E B hB hr) m_echoed⟩
theorem len__law_again : ∀ cs K', S_again cs K' → cs.length = P__law_again.length := by (intro cs K' h; repeat (first | (obtain ⟨e, -⟩ := h; subst e; rfl) | obtain ⟨_, h⟩ := h))
theorem j__law_again (G : Gs K mg) (h : Fx K mg "_law_again" s__law_again P__law_again) : Cal P w K mg base ⟨dkn, tb⟩ 1 "_law_again" s__law_again P__law_again S_again := by
  obtain ⟨f, fd, hm, F, hb⟩ := h
  exact ⟨f, fd, hm, F, hb, fn_okD F sc__law_again len__law_again (fun cdv A outer s H E B hB hr => b__law_again G cdv A outer s H E B hB hr) m_lagain⟩
theorem len__law_breaking : ∀ cs K', S_breaking cs K' → cs.length = P__law_breaking.length := by (intro cs K' h; repeat (first | (obtain ⟨e, -⟩ := h; subst e; rfl) | obtain ⟨_, h⟩ := h))
theorem j__law_breaking (G : Gs K mg) (h : Fx K mg "_law_breaking" s__law_breaking P__law_breaking) (c__law_behind : Cal P w K mg base ⟨dkn, tb⟩ 1 "_law_behind" s__law_behind P__law_behind S_behind) (c__law_meets : Cal P w K mg base ⟨dkn, tb⟩ 1 "_law_meets" s__law_meets P__law_meets S_lmeets) : Cal P w K mg base ⟨dkn, tb⟩ 2 "_law_breaking" s__law_breaking P__law_breaking S_breaking := by
  obtain ⟨f, fd, hm, F, hb⟩ := h
  exact ⟨f, fd, hm, F, hb, fn_okD F sc__law_breaking len__law_breaking (fun cdv A outer s H E B hB hr => b__law_breaking G c__law_behind c__law_meets cdv A outer s H E B hB hr) m_breaking⟩
theorem len__law_is_harmless : ∀ cs K', S_harmless cs K' → cs.length = P__law_is_harmless.length := by (intro cs K' h; repeat (first | (obtain ⟨e, -⟩ := h; subst e; rfl) | obtain ⟨_, h⟩ := h))
theorem j__law_is_harmless (G : Gs K mg) (h : Fx K mg "_law_is_harmless" s__law_is_harmless P__law_is_harmless) : Cal P w K mg base ⟨dkn, tb⟩ 1 "_law_is_harmless" s__law_is_harmless P__law_is_harmless S_harmless := by
  obtain ⟨f, fd, hm, F, hb⟩ := h
  exact ⟨f, fd, hm, F, hb, fn_okD F sc__law_is_harmless len__law_is_harmless (fun cdv A outer s H E B hB hr => b__law_is_harmless G cdv A outer s H E B hB hr) m_harmless⟩
theorem len__law_calm : ∀ cs K', S_calm cs K' → cs.length = P__law_calm.length := by (intro cs K' h; repeat (first | (obtain ⟨e, -⟩ := h; subst e; rfl) | obtain ⟨_, h⟩ := h))
theorem j__law_calm (G : Gs K mg) (h : Fx K mg "_law_calm" s__law_calm P__law_calm) (c__law_deeds : Cal P w K mg base ⟨dkn, tb⟩ 1 "_law_deeds" s__law_deeds P__law_deeds S_deeds) (c__law_is_harmless : Cal P w K mg base ⟨dkn, tb⟩ 1 "_law_is_harmless" s__law_is_harmless P__law_is_harmless S_harmless) (c__law_script : Cal P w K mg base ⟨dkn, tb⟩ 3 "_law_script" s__law_script P__law_script S_script) : Cal P w K mg base ⟨dkn, tb⟩ 4 "_law_calm" s__law_calm P__law_calm S_calm := by
  obtain ⟨f, fd, hm, F, hb⟩ := h
  exact ⟨f, fd, hm, F, hb, fn_okD F sc__law_calm len__law_calm (fun cdv A outer s H E B hB hr => b__law_calm G c__law_deeds c__law_is_harmless c__law_script cdv A outer s H E B hB hr) m_calm⟩
theorem len__law_is_right : ∀ cs K', S_right cs K' → cs.length = P__law_is_right.length := by (intro cs K' h; repeat (first | (obtain ⟨e, -⟩ := h; subst e; rfl) | obtain ⟨_, h⟩ := h))
theorem j__law_is_right (G : Gs K mg) (h : Fx K mg "_law_is_right" s__law_is_right P__law_is_right) (c__law_is_integer : Cal P w K mg base ⟨dkn, tb⟩ 1 "_law_is_integer" s__law_is_integer P__law_is_integer S_isint) : Cal P w K mg base ⟨dkn, tb⟩ 2 "_law_is_right" s__law_is_right P__law_is_right S_right := by
  obtain ⟨f, fd, hm, F, hb⟩ := h
  exact ⟨f, fd, hm, F, hb, fn_okD F sc__law_is_right len__law_is_right (fun cdv A outer s H E B hB hr => b__law_is_right G c__law_is_integer cdv A outer s H E B hB hr) m_right⟩
theorem len__law_holds : ∀ cs K', S_holds cs K' → cs.length = P__law_holds.length := by (intro cs K' h; repeat (first | (obtain ⟨e, -⟩ := h; subst e; rfl) | obtain ⟨_, h⟩ := h))
theorem j__law_holds (G : Gs K mg) (h : Fx K mg "_law_holds" s__law_holds P__law_holds) (c__law_is_right : Cal P w K mg base ⟨dkn, tb⟩ 2 "_law_is_right" s__law_is_right P__law_is_right S_right) (c__law_same : Cal P w K mg base ⟨dkn, tb⟩ 6 "_law_same" s__law_same P__law_same S_same) (c_echo_holds : Cal P w K mg base ⟨dkn, tb⟩ 10 "echo_holds" s_echo_holds P_echo_holds S_echo_holds) : Cal P w K mg base ⟨dkn, tb⟩ 11 "_law_holds" s__law_holds P__law_holds S_holds := by
  obtain ⟨f, fd, hm, F, hb⟩ := h
  exact ⟨f, fd, hm, F, hb, fn_okD F sc__law_holds len__law_holds (fun cdv A outer s H E B hB hr => b__law_holds G c__law_is_right c__law_same c_echo_holds cdv A outer s H E B hB hr) m_holds⟩
theorem len__law_things : ∀ cs K', S_things cs K' → cs.length = P__law_things.length := by (intro cs K' h; repeat (first | (obtain ⟨e, -⟩ := h; subst e; rfl) | obtain ⟨_, h⟩ := h))
theorem j__law_things (G : Gs K mg) (h : Fx K mg "_law_things" s__law_things P__law_things) (c__law_draw : Cal P w K mg base ⟨dkn, tb⟩ 1 "_law_draw" s__law_draw P__law_draw S_draw) (c__law_pick : Cal P w K mg base ⟨dkn, tb⟩ 2 "_law_pick" s__law_pick P__law_pick S_pick) : Cal P w K mg base ⟨dkn, tb⟩ 3 "_law_things" s__law_things P__law_things S_things := by
  obtain ⟨f, fd, hm, F, hb⟩ := h
  exact ⟨f, fd, hm, F, hb, fn_okD F sc__law_things len__law_things (fun cdv A outer s H E B hB hr => b__law_things G c__law_draw c__law_pick cdv A outer s H E B hB hr) m_things⟩
theorem len_law : ∀ cs K', S_law cs K' → cs.length = P_law.length := by (intro cs K' h; repeat (first | (obtain ⟨e, -⟩ := h; subst e; rfl) | obtain ⟨_, h⟩ := h))
theorem j_law {f : Addr} {fd : FuncData} (G : Gs K mg) (c__law_deck : Cal P w K mg base ⟨dkn, tb⟩ 1 "_law_deck" s__law_deck P__law_deck S_deck) (c__law_world : Cal P w K mg base ⟨dkn, tb⟩ 1 "_law_world" s__law_world P__law_world S_world) (c__law_book : Cal P w K mg base ⟨dkn, tb⟩ 3 "_law_book" s__law_book P__law_book S_book) (c__law_echoed : Cal P w K mg base ⟨dkn, tb⟩ 4 "_law_echoed" s__law_echoed P__law_echoed S_echoed) (c__law_pick : Cal P w K mg base ⟨dkn, tb⟩ 2 "_law_pick" s__law_pick P__law_pick S_pick) (c__law_met_asks : Cal P w K mg base ⟨dkn, tb⟩ 3 "_law_met_asks" s__law_met_asks P__law_met_asks S_met) (c__law_draw : Cal P w K mg base ⟨dkn, tb⟩ 1 "_law_draw" s__law_draw P__law_draw S_draw) (c__law_calm : Cal P w K mg base ⟨dkn, tb⟩ 4 "_law_calm" s__law_calm P__law_calm S_calm) (c__law_meets : Cal P w K mg base ⟨dkn, tb⟩ 1 "_law_meets" s__law_meets P__law_meets S_lmeets) (c__law_bad : Cal P w K mg base ⟨dkn, tb⟩ 1 "_law_bad" s__law_bad P__law_bad S_bad) (c__law_state : Cal P w K mg base ⟨dkn, tb⟩ 2 "_law_state" s__law_state P__law_state S_state) (c__law_breaking : Cal P w K mg base ⟨dkn, tb⟩ 2 "_law_breaking" s__law_breaking P__law_breaking S_breaking) (c_judge_echo : Cal P w K mg base ⟨dkn, tb⟩ 10 "judge_echo" s_judge_echo P_judge_echo S_judge_echo) (c__law_is_right : Cal P w K mg base ⟨dkn, tb⟩ 2 "_law_is_right" s__law_is_right P__law_is_right S_right) (c__law_is_harmless : Cal P w K mg base ⟨dkn, tb⟩ 1 "_law_is_harmless" s__law_is_harmless P__law_is_harmless S_harmless) (c_meets_asks : Cal P w K mg base ⟨dkn, tb⟩ 9 "meets_asks" s_meets_asks P_meets_asks S_meets_asks) (c__law_again : Cal P w K mg base ⟨dkn, tb⟩ 1 "_law_again" s__law_again P__law_again S_again) (c__law_things : Cal P w K mg base ⟨dkn, tb⟩ 3 "_law_things" s__law_things P__law_things S_things) (c__law_holds : Cal P w K mg base ⟨dkn, tb⟩ 11 "_law_holds" s__law_holds P__law_holds S_holds) (c__law_same : Cal P w K mg base ⟨dkn, tb⟩ 6 "_law_same" s__law_same P__law_same S_same) (F : FnP K "law" s_law f fd) : FnOk P w K mg base CX0 12 f fd P_law (spOf0 K ⟨dkn, tb⟩ S_law) :=
  fn_ok0 F sc_law len_law (fun cdv A outer s H E B hB hda hr => b_law G c__law_deck c__law_world c__law_book c__law_echoed c__law_pick c__law_met_asks c__law_draw c__law_calm c__law_meets c__law_bad c__law_state c__law_breaking c_judge_echo c__law_is_right c__law_is_harmless c_meets_asks c__law_again c__law_things c__law_holds c__law_same cdv A outer s H E B hB hda rfl hr) m_law
end
end L89
set_option maxHeartbeats 2000000
namespace L89
open PySem PySem.Spec PyProof.Rows L2 DL
section
variable {P : Program} {w : World} {K : PySem.W.Frag} {h : Heap} {mg : Str → Option Value}
theorem gs_ok (X : K.In h) (G : h.Ns mainGlobals mg) (c : He.SaysX fa fn [] tf (exT tps) w h K) : Gs K mg := ⟨He.free_ok X G (c.t.d.fact 61 (f := .free "Exception") rfl),
  He.free_ok X G (c.t.d.fact 62 (f := .free "all") rfl),
  He.free_ok X G (c.t.d.fact 63 (f := .free "bool") rfl),
  He.free_ok X G (c.t.d.fact 64 (f := .free "enumerate") rfl),
  He.free_ok X G (c.t.d.fact 65 (f := .free "int") rfl),
  He.free_ok X G (c.t.d.fact 66 (f := .free "isinstance") rfl),
  He.free_ok X G (c.t.d.fact 67 (f := .free "len") rfl),
  He.free_ok X G (c.t.d.fact 68 (f := .free "list") rfl),
  He.free_ok X G (c.t.d.fact 69 (f := .free "max") rfl),
  He.free_ok X G (c.t.d.fact 70 (f := .free "min") rfl),
  He.free_ok X G (c.t.d.fact 71 (f := .free "range") rfl),
  He.free_ok X G (c.t.d.fact 72 (f := .free "sorted") rfl),
  He.free_ok X G (c.t.d.fact 73 (f := .free "str") rfl),
  He.free_ok X G (c.t.d.fact 74 (f := .free "sum") rfl),
  He.free_ok X G (c.t.d.fact 75 (f := .free "super") rfl),
  He.free_ok X G (c.t.d.fact 76 (f := .free "tuple") rfl),
  He.free_ok X G (c.t.d.fact 77 (f := .free "zip") rfl),
  He.int_ok X G (c.t.d.fact 78 (f := .int "MOST_TERRACES" 10) rfl),
  ⟨_, He.glo_ok X G (c.t.d.fact 79 (f := .glo "WORDS") rfl), fun H => exT_tup c.more 0 (t := tps.getD 0 ("", [])) rfl H⟩,
  He.str_ok X G (c.t.d.fact 80 (f := .str "DRY" "dry") rfl),
  He.str_ok X G (c.t.d.fact 81 (f := .str "KEPT" "kept") rfl),
  He.str_ok X G (c.t.d.fact 82 (f := .str "WET" "wet") rfl),
  ⟨_, He.glo_ok X G (c.t.d.fact 83 (f := .glo "STANDINGS") rfl), fun H => exT_tup c.more 1 (t := tps.getD 1 ("", [])) rfl H⟩,
  He.str_ok X G (c.t.d.fact 84 (f := .str "FIRM" "firm") rfl),
  He.str_ok X G (c.t.d.fact 85 (f := .str "ECHO" "echo") rfl)⟩
theorem fx_is_integer (X : K.In h) (G : h.Ns mainGlobals mg) (c : He.SaysX fa fn [] tf (exT tps) w h K) : Fx K mg "is_integer" s_is_integer P_is_integer := by
  obtain ⟨fd, F⟩ := c.t.d.def_ 0 (d := d_is_integer) rfl
  exact ⟨_, fd, He.glo_ok X G (c.t.d.fact 0 (f := .glo "is_integer") rfl), F, FunD.bindsN (ps := P_is_integer) F fun _ _ _ _ _ _ us hl => match us, hl with | [_], _ => rfl⟩
theorem fx_is_between (X : K.In h) (G : h.Ns mainGlobals mg) (c : He.SaysX fa fn [] tf (exT tps) w h K) : Fx K mg "is_between" s_is_between P_is_between := by
  obtain ⟨fd, F⟩ := c.t.d.def_ 1 (d := d_is_between) rfl
  exact ⟨_, fd, He.glo_ok X G (c.t.d.fact 1 (f := .glo "is_between") rfl), F, FunD.bindsN (ps := P_is_between) F fun _ _ _ _ _ _ us hl => match us, hl with | [_, _, _], _ => rfl⟩
theorem fx_is_pair_of (X : K.In h) (G : h.Ns mainGlobals mg) (c : He.SaysX fa fn [] tf (exT tps) w h K) : Fx K mg "is_pair_of" s_is_pair_of P_is_pair_of := by
  obtain ⟨fd, F⟩ := c.t.d.def_ 2 (d := d_is_pair_of) rfl
  exact ⟨_, fd, He.glo_ok X G (c.t.d.fact 2 (f := .glo "is_pair_of") rfl), F, FunD.bindsN (ps := P_is_pair_of) F fun _ _ _ _ _ _ us hl => match us, hl with | [_, _], _ => rfl⟩
theorem fx_is_book_value (X : K.In h) (G : h.Ns mainGlobals mg) (c : He.SaysX fa fn [] tf (exT tps) w h K) : Fx K mg "is_book_value" s_is_book_value P_is_book_value := by
  obtain ⟨fd, F⟩ := c.t.d.def_ 3 (d := d_is_book_value) rfl
  exact ⟨_, fd, He.glo_ok X G (c.t.d.fact 3 (f := .glo "is_book_value") rfl), F, FunD.bindsN (ps := P_is_book_value) F fun _ _ _ _ _ _ us hl => match us, hl with | [_], _ => rfl⟩
theorem fx_need_book (X : K.In h) (G : h.Ns mainGlobals mg) (c : He.SaysX fa fn [] tf (exT tps) w h K) : Fx K mg "need_book" s_need_book P_need_book := by
  obtain ⟨fd, F⟩ := c.t.d.def_ 4 (d := d_need_book) rfl
  exact ⟨_, fd, He.glo_ok X G (c.t.d.fact 4 (f := .glo "need_book") rfl), F, FunD.bindsN (ps := P_need_book) F fun _ _ _ _ _ _ us hl => match us, hl with | [_], _ => rfl⟩
theorem fx_lows (X : K.In h) (G : h.Ns mainGlobals mg) (c : He.SaysX fa fn [] tf (exT tps) w h K) : Fx K mg "lows" s_lows P_lows := by
  obtain ⟨fd, F⟩ := c.t.d.def_ 5 (d := d_lows) rfl
  exact ⟨_, fd, He.glo_ok X G (c.t.d.fact 5 (f := .glo "lows") rfl), F, FunD.bindsN (ps := P_lows) F fun _ _ _ _ _ _ us hl => match us, hl with | [_], _ => rfl⟩
theorem fx_highs (X : K.In h) (G : h.Ns mainGlobals mg) (c : He.SaysX fa fn [] tf (exT tps) w h K) : Fx K mg "highs" s_highs P_highs := by
  obtain ⟨fd, F⟩ := c.t.d.def_ 6 (d := d_highs) rfl
  exact ⟨_, fd, He.glo_ok X G (c.t.d.fact 6 (f := .glo "highs") rfl), F, FunD.bindsN (ps := P_highs) F fun _ _ _ _ _ _ us hl => match us, hl with | [_], _ => rfl⟩
theorem fx_hill_of_lows (X : K.In h) (G : h.Ns mainGlobals mg) (c : He.SaysX fa fn [] tf (exT tps) w h K) : Fx K mg "hill_of_lows" s_hill_of_lows P_hill_of_lows := by
  obtain ⟨fd, F⟩ := c.t.d.def_ 7 (d := d_hill_of_lows) rfl
  exact ⟨_, fd, He.glo_ok X G (c.t.d.fact 7 (f := .glo "hill_of_lows") rfl), F, FunD.bindsN (ps := P_hill_of_lows) F fun _ _ _ _ _ _ us hl => match us, hl with | [_], _ => rfl⟩
theorem fx_closing_of (X : K.In h) (G : h.Ns mainGlobals mg) (c : He.SaysX fa fn [] tf (exT tps) w h K) : Fx K mg "closing_of" s_closing_of P_closing_of := by
  obtain ⟨fd, F⟩ := c.t.d.def_ 8 (d := d_closing_of) rfl
  exact ⟨_, fd, He.glo_ok X G (c.t.d.fact 8 (f := .glo "closing_of") rfl), F, FunD.bindsN (ps := P_closing_of) F fun _ _ _ _ _ _ us hl => match us, hl with | [_], _ => rfl⟩
theorem fx_mask_of (X : K.In h) (G : h.Ns mainGlobals mg) (c : He.SaysX fa fn [] tf (exT tps) w h K) : Fx K mg "mask_of" s_mask_of P_mask_of := by
  obtain ⟨fd, F⟩ := c.t.d.def_ 9 (d := d_mask_of) rfl
  exact ⟨_, fd, He.glo_ok X G (c.t.d.fact 9 (f := .glo "mask_of") rfl), F, FunD.bindsN (ps := P_mask_of) F fun _ _ _ _ _ _ us hl => match us, hl with | [_], _ => rfl⟩
theorem fx_lot_of (X : K.In h) (G : h.Ns mainGlobals mg) (c : He.SaysX fa fn [] tf (exT tps) w h K) : Fx K mg "lot_of" s_lot_of P_lot_of := by
  obtain ⟨fd, F⟩ := c.t.d.def_ 10 (d := d_lot_of) rfl
  exact ⟨_, fd, He.glo_ok X G (c.t.d.fact 10 (f := .glo "lot_of") rfl), F, FunD.bindsN (ps := P_lot_of) F fun _ _ _ _ _ _ us hl => match us, hl with | [_], _ => rfl⟩
theorem fx_is_lot_value (X : K.In h) (G : h.Ns mainGlobals mg) (c : He.SaysX fa fn [] tf (exT tps) w h K) : Fx K mg "is_lot_value" s_is_lot_value P_is_lot_value := by
  obtain ⟨fd, F⟩ := c.t.d.def_ 11 (d := d_is_lot_value) rfl
  exact ⟨_, fd, He.glo_ok X G (c.t.d.fact 11 (f := .glo "is_lot_value") rfl), F, FunD.bindsN (ps := P_is_lot_value) F fun _ _ _ _ _ _ us hl => match us, hl with | [_, _], _ => rfl⟩
theorem fx_closed_mask (X : K.In h) (G : h.Ns mainGlobals mg) (c : He.SaysX fa fn [] tf (exT tps) w h K) : Fx K mg "closed_mask" s_closed_mask P_closed_mask := by
  obtain ⟨fd, F⟩ := c.t.d.def_ 12 (d := d_closed_mask) rfl
  exact ⟨_, fd, He.glo_ok X G (c.t.d.fact 12 (f := .glo "closed_mask") rfl), F, FunD.bindsN (ps := P_closed_mask) F fun _ _ _ _ _ _ us hl => match us, hl with | [_, _], _ => rfl⟩
theorem fx_lower_mask (X : K.In h) (G : h.Ns mainGlobals mg) (c : He.SaysX fa fn [] tf (exT tps) w h K) : Fx K mg "lower_mask" s_lower_mask P_lower_mask := by
  obtain ⟨fd, F⟩ := c.t.d.def_ 13 (d := d_lower_mask) rfl
  exact ⟨_, fd, He.glo_ok X G (c.t.d.fact 13 (f := .glo "lower_mask") rfl), F, FunD.bindsN (ps := P_lower_mask) F fun _ _ _ _ _ _ us hl => match us, hl with | [_, _], _ => rfl⟩
theorem fx_upper_mask (X : K.In h) (G : h.Ns mainGlobals mg) (c : He.SaysX fa fn [] tf (exT tps) w h K) : Fx K mg "upper_mask" s_upper_mask P_upper_mask := by
  obtain ⟨fd, F⟩ := c.t.d.def_ 14 (d := d_upper_mask) rfl
  exact ⟨_, fd, He.glo_ok X G (c.t.d.fact 14 (f := .glo "upper_mask") rfl), F, FunD.bindsN (ps := P_upper_mask) F fun _ _ _ _ _ _ us hl => match us, hl with | [_, _], _ => rfl⟩
theorem fx_is_lower_value (X : K.In h) (G : h.Ns mainGlobals mg) (c : He.SaysX fa fn [] tf (exT tps) w h K) : Fx K mg "is_lower_value" s_is_lower_value P_is_lower_value := by
  obtain ⟨fd, F⟩ := c.t.d.def_ 15 (d := d_is_lower_value) rfl
  exact ⟨_, fd, He.glo_ok X G (c.t.d.fact 15 (f := .glo "is_lower_value") rfl), F, FunD.bindsN (ps := P_is_lower_value) F fun _ _ _ _ _ _ us hl => match us, hl with | [_, _], _ => rfl⟩
theorem fx_is_upper_value (X : K.In h) (G : h.Ns mainGlobals mg) (c : He.SaysX fa fn [] tf (exT tps) w h K) : Fx K mg "is_upper_value" s_is_upper_value P_is_upper_value := by
  obtain ⟨fd, F⟩ := c.t.d.def_ 16 (d := d_is_upper_value) rfl
  exact ⟨_, fd, He.glo_ok X G (c.t.d.fact 16 (f := .glo "is_upper_value") rfl), F, FunD.bindsN (ps := P_is_upper_value) F fun _ _ _ _ _ _ us hl => match us, hl with | [_, _], _ => rfl⟩
theorem fx_is_kind_value (X : K.In h) (G : h.Ns mainGlobals mg) (c : He.SaysX fa fn [] tf (exT tps) w h K) : Fx K mg "is_kind_value" s_is_kind_value P_is_kind_value := by
  obtain ⟨fd, F⟩ := c.t.d.def_ 17 (d := d_is_kind_value) rfl
  exact ⟨_, fd, He.glo_ok X G (c.t.d.fact 17 (f := .glo "is_kind_value") rfl), F, FunD.bindsN (ps := P_is_kind_value) F fun _ _ _ _ _ _ us hl => match us, hl with | [_, _], _ => rfl⟩
theorem fx_standing_of (X : K.In h) (G : h.Ns mainGlobals mg) (c : He.SaysX fa fn [] tf (exT tps) w h K) : Fx K mg "standing_of" s_standing_of P_standing_of := by
  obtain ⟨fd, F⟩ := c.t.d.def_ 18 (d := d_standing_of) rfl
  exact ⟨_, fd, He.glo_ok X G (c.t.d.fact 18 (f := .glo "standing_of") rfl), F, FunD.bindsN (ps := P_standing_of) F fun _ _ _ _ _ _ us hl => match us, hl with | [_, _, _], _ => rfl⟩
theorem fx_is_deed_value (X : K.In h) (G : h.Ns mainGlobals mg) (c : He.SaysX fa fn [] tf (exT tps) w h K) : Fx K mg "is_deed_value" s_is_deed_value P_is_deed_value := by
  obtain ⟨fd, F⟩ := c.t.d.def_ 19 (d := d_is_deed_value) rfl
  exact ⟨_, fd, He.glo_ok X G (c.t.d.fact 19 (f := .glo "is_deed_value") rfl), F, FunD.bindsN (ps := P_is_deed_value) F fun _ _ _ _ _ _ us hl => match us, hl with | [_, _], _ => rfl⟩
theorem fx_is_script_value (X : K.In h) (G : h.Ns mainGlobals mg) (c : He.SaysX fa fn [] tf (exT tps) w h K) : Fx K mg "is_script_value" s_is_script_value P_is_script_value := by
  obtain ⟨fd, F⟩ := c.t.d.def_ 20 (d := d_is_script_value) rfl
  exact ⟨_, fd, He.glo_ok X G (c.t.d.fact 20 (f := .glo "is_script_value") rfl), F, FunD.bindsN (ps := P_is_script_value) F fun _ _ _ _ _ _ us hl => match us, hl with | [_, _], _ => rfl⟩
theorem fx_need_script (X : K.In h) (G : h.Ns mainGlobals mg) (c : He.SaysX fa fn [] tf (exT tps) w h K) : Fx K mg "need_script" s_need_script P_need_script := by
  obtain ⟨fd, F⟩ := c.t.d.def_ 21 (d := d_need_script) rfl
  exact ⟨_, fd, He.glo_ok X G (c.t.d.fact 21 (f := .glo "need_script") rfl), F, FunD.bindsN (ps := P_need_script) F fun _ _ _ _ _ _ us hl => match us, hl with | [_, _], _ => rfl⟩
theorem fx_left_by (X : K.In h) (G : h.Ns mainGlobals mg) (c : He.SaysX fa fn [] tf (exT tps) w h K) : Fx K mg "left_by" s_left_by P_left_by := by
  obtain ⟨fd, F⟩ := c.t.d.def_ 22 (d := d_left_by) rfl
  exact ⟨_, fd, He.glo_ok X G (c.t.d.fact 22 (f := .glo "left_by") rfl), F, FunD.bindsN (ps := P_left_by) F fun _ _ _ _ _ _ us hl => match us, hl with | [_], _ => rfl⟩
theorem fx_does_reach (X : K.In h) (G : h.Ns mainGlobals mg) (c : He.SaysX fa fn [] tf (exT tps) w h K) : Fx K mg "does_reach" s_does_reach P_does_reach := by
  obtain ⟨fd, F⟩ := c.t.d.def_ 23 (d := d_does_reach) rfl
  exact ⟨_, fd, He.glo_ok X G (c.t.d.fact 23 (f := .glo "does_reach") rfl), F, FunD.bindsN (ps := P_does_reach) F fun _ _ _ _ _ _ us hl => match us, hl with | [_, _], _ => rfl⟩
theorem fx_are_allowed (X : K.In h) (G : h.Ns mainGlobals mg) (c : He.SaysX fa fn [] tf (exT tps) w h K) : Fx K mg "are_allowed" s_are_allowed P_are_allowed := by
  obtain ⟨fd, F⟩ := c.t.d.def_ 24 (d := d_are_allowed) rfl
  exact ⟨_, fd, He.glo_ok X G (c.t.d.fact 24 (f := .glo "are_allowed") rfl), F, FunD.bindsN (ps := P_are_allowed) F fun _ _ _ _ _ _ us hl => match us, hl with | [_], _ => rfl⟩
theorem fx_is_ask (X : K.In h) (G : h.Ns mainGlobals mg) (c : He.SaysX fa fn [] tf (exT tps) w h K) : Fx K mg "is_ask" s_is_ask P_is_ask := by
  obtain ⟨fd, F⟩ := c.t.d.def_ 25 (d := d_is_ask) rfl
  exact ⟨_, fd, He.glo_ok X G (c.t.d.fact 25 (f := .glo "is_ask") rfl), F, FunD.bindsN (ps := P_is_ask) F fun _ _ _ _ _ _ us hl => match us, hl with | [_, _], _ => rfl⟩
theorem fx_are_asks_value (X : K.In h) (G : h.Ns mainGlobals mg) (c : He.SaysX fa fn [] tf (exT tps) w h K) : Fx K mg "are_asks_value" s_are_asks_value P_are_asks_value := by
  obtain ⟨fd, F⟩ := c.t.d.def_ 26 (d := d_are_asks_value) rfl
  exact ⟨_, fd, He.glo_ok X G (c.t.d.fact 26 (f := .glo "are_asks_value") rfl), F, FunD.bindsN (ps := P_are_asks_value) F fun _ _ _ _ _ _ us hl => match us, hl with | [_, _], _ => rfl⟩
theorem fx_are_met (X : K.In h) (G : h.Ns mainGlobals mg) (c : He.SaysX fa fn [] tf (exT tps) w h K) : Fx K mg "are_met" s_are_met P_are_met := by
  obtain ⟨fd, F⟩ := c.t.d.def_ 27 (d := d_are_met) rfl
  exact ⟨_, fd, He.glo_ok X G (c.t.d.fact 27 (f := .glo "are_met") rfl), F, FunD.bindsN (ps := P_are_met) F fun _ _ _ _ _ _ us hl => match us, hl with | [_, _], _ => rfl⟩
theorem fx_need_asks (X : K.In h) (G : h.Ns mainGlobals mg) (c : He.SaysX fa fn [] tf (exT tps) w h K) : Fx K mg "need_asks" s_need_asks P_need_asks := by
  obtain ⟨fd, F⟩ := c.t.d.def_ 28 (d := d_need_asks) rfl
  exact ⟨_, fd, He.glo_ok X G (c.t.d.fact 28 (f := .glo "need_asks") rfl), F, FunD.bindsN (ps := P_need_asks) F fun _ _ _ _ _ _ us hl => match us, hl with | [_, _], _ => rfl⟩
theorem fx_does_meet (X : K.In h) (G : h.Ns mainGlobals mg) (c : He.SaysX fa fn [] tf (exT tps) w h K) : ∃ f fd, mg "does_meet" = some (.ref f) ∧ FnP K "does_meet" s_does_meet f fd ∧ Binds K fd P_does_meet [] ∧ fd.code = .ref (He.cT K ("does_meet", none)).1 := by
  obtain ⟨fd, F⟩ := c.t.d.def_ 29 (d := d_does_meet) rfl
  exact ⟨_, fd, He.glo_ok X G (c.t.d.fact 29 (f := .glo "does_meet") rfl), F, FunD.bindsN (ps := P_does_meet) F fun _ _ _ _ _ _ us hl => match us, hl with | [_, _], _ => rfl, fdCode (st := s_does_meet) F⟩
theorem fx_meets_asks (X : K.In h) (G : h.Ns mainGlobals mg) (c : He.SaysX fa fn [] tf (exT tps) w h K) : Fx K mg "meets_asks" s_meets_asks P_meets_asks := by
  obtain ⟨fd, F⟩ := c.t.d.def_ 30 (d := d_meets_asks) rfl
  exact ⟨_, fd, He.glo_ok X G (c.t.d.fact 30 (f := .glo "meets_asks") rfl), F, FunD.bindsN (ps := P_meets_asks) F fun _ _ _ _ _ _ us hl => match us, hl with | [_, _, _], _ => rfl⟩
theorem fx_reaching (X : K.In h) (G : h.Ns mainGlobals mg) (c : He.SaysX fa fn [] tf (exT tps) w h K) : Fx K mg "reaching" s_reaching P_reaching := by
  obtain ⟨fd, F⟩ := c.t.d.def_ 31 (d := d_reaching) rfl
  exact ⟨_, fd, He.glo_ok X G (c.t.d.fact 31 (f := .glo "reaching") rfl), F, FunD.bindsN (ps := P_reaching) F fun _ _ _ _ _ _ us hl => match us, hl with | [_, _], _ => rfl⟩
theorem fx_again (X : K.In h) (G : h.Ns mainGlobals mg) (c : He.SaysX fa fn [] tf (exT tps) w h K) : Fx K mg "again" s_again P_again := by
  obtain ⟨fd, F⟩ := c.t.d.def_ 32 (d := d_again) rfl
  exact ⟨_, fd, He.glo_ok X G (c.t.d.fact 32 (f := .glo "again") rfl), F, FunD.bindsN (ps := P_again) F fun _ _ _ _ _ _ us hl => match us, hl with | [_, _, _], _ => rfl⟩
theorem fx_first_echo (X : K.In h) (G : h.Ns mainGlobals mg) (c : He.SaysX fa fn [] tf (exT tps) w h K) : Fx K mg "first_echo" s_first_echo P_first_echo := by
  obtain ⟨fd, F⟩ := c.t.d.def_ 33 (d := d_first_echo) rfl
  exact ⟨_, fd, He.glo_ok X G (c.t.d.fact 33 (f := .glo "first_echo") rfl), F, FunD.bindsN (ps := P_first_echo) F fun _ _ _ _ _ _ us hl => match us, hl with | [_, _], _ => rfl⟩
theorem fx_need_question (X : K.In h) (G : h.Ns mainGlobals mg) (c : He.SaysX fa fn [] tf (exT tps) w h K) : Fx K mg "need_question" s_need_question P_need_question := by
  obtain ⟨fd, F⟩ := c.t.d.def_ 34 (d := d_need_question) rfl
  exact ⟨_, fd, He.glo_ok X G (c.t.d.fact 34 (f := .glo "need_question") rfl), F, FunD.bindsN (ps := P_need_question) F fun _ _ _ _ _ _ us hl => match us, hl with | [_, _, _], _ => rfl⟩
theorem fx_judge_echo (X : K.In h) (G : h.Ns mainGlobals mg) (c : He.SaysX fa fn [] tf (exT tps) w h K) : Fx K mg "judge_echo" s_judge_echo P_judge_echo := by
  obtain ⟨fd, F⟩ := c.t.d.def_ 35 (d := d_judge_echo) rfl
  exact ⟨_, fd, He.glo_ok X G (c.t.d.fact 35 (f := .glo "judge_echo") rfl), F, FunD.bindsN (ps := P_judge_echo) F fun _ _ _ _ _ _ us hl => match us, hl with | [_, _, _], _ => rfl⟩
theorem fx_is_echo (X : K.In h) (G : h.Ns mainGlobals mg) (c : He.SaysX fa fn [] tf (exT tps) w h K) : Fx K mg "is_echo" s_is_echo P_is_echo := by
  obtain ⟨fd, F⟩ := c.t.d.def_ 36 (d := d_is_echo) rfl
  exact ⟨_, fd, He.glo_ok X G (c.t.d.fact 36 (f := .glo "is_echo") rfl), F, FunD.bindsN (ps := P_is_echo) F fun _ _ _ _ _ _ us hl => match us, hl with | [_, _, _, _], _ => rfl⟩
theorem fx_echo_holds (X : K.In h) (G : h.Ns mainGlobals mg) (c : He.SaysX fa fn [] tf (exT tps) w h K) : Fx K mg "echo_holds" s_echo_holds P_echo_holds := by
  obtain ⟨fd, F⟩ := c.t.d.def_ 37 (d := d_echo_holds) rfl
  exact ⟨_, fd, He.glo_ok X G (c.t.d.fact 37 (f := .glo "echo_holds") rfl), F, FunD.bindsN (ps := P_echo_holds) F fun _ _ _ _ _ _ us hl => match us, hl with | [_, _, _, _], _ => rfl⟩
theorem fx__law_deck (X : K.In h) (G : h.Ns mainGlobals mg) (c : He.SaysX fa fn [] tf (exT tps) w h K) : Fx K mg "_law_deck" s__law_deck P__law_deck := by
  obtain ⟨fd, F⟩ := c.t.d.def_ 38 (d := d__law_deck) rfl
  exact ⟨_, fd, He.glo_ok X G (c.t.d.fact 38 (f := .glo "_law_deck") rfl), F, FunD.bindsN (ps := P__law_deck) F fun _ _ _ _ _ _ us hl => match us, hl with | [_, _], _ => rfl⟩
theorem fx__law_draw (X : K.In h) (G : h.Ns mainGlobals mg) (c : He.SaysX fa fn [] tf (exT tps) w h K) : Fx K mg "_law_draw" s__law_draw P__law_draw := by
  obtain ⟨fd, F⟩ := c.t.d.def_ 39 (d := d__law_draw) rfl
  exact ⟨_, fd, He.glo_ok X G (c.t.d.fact 39 (f := .glo "_law_draw") rfl), F, FunD.bindsN (ps := P__law_draw) F fun _ _ _ _ _ _ us hl => match us, hl with | [_, _], _ => rfl⟩
theorem fx__law_pick (X : K.In h) (G : h.Ns mainGlobals mg) (c : He.SaysX fa fn [] tf (exT tps) w h K) : Fx K mg "_law_pick" s__law_pick P__law_pick := by
  obtain ⟨fd, F⟩ := c.t.d.def_ 40 (d := d__law_pick) rfl
  exact ⟨_, fd, He.glo_ok X G (c.t.d.fact 40 (f := .glo "_law_pick") rfl), F, FunD.bindsN (ps := P__law_pick) F fun _ _ _ _ _ _ us hl => match us, hl with | [_, _], _ => rfl⟩
theorem fx__law_same (X : K.In h) (G : h.Ns mainGlobals mg) (c : He.SaysX fa fn [] tf (exT tps) w h K) : Fx K mg "_law_same" s__law_same P__law_same := by
  obtain ⟨fd, F⟩ := c.t.d.def_ 41 (d := d__law_same) rfl
  exact ⟨_, fd, He.glo_ok X G (c.t.d.fact 41 (f := .glo "_law_same") rfl), F, FunD.bindsN (ps := P__law_same) F fun _ _ _ _ _ _ us hl => match us, hl with | [_, _], _ => rfl⟩
theorem fx__law_book (X : K.In h) (G : h.Ns mainGlobals mg) (c : He.SaysX fa fn [] tf (exT tps) w h K) : Fx K mg "_law_book" s__law_book P__law_book := by
  obtain ⟨fd, F⟩ := c.t.d.def_ 42 (d := d__law_book) rfl
  exact ⟨_, fd, He.glo_ok X G (c.t.d.fact 42 (f := .glo "_law_book") rfl), F, FunD.bindsN (ps := P__law_book) F fun _ _ _ _ _ _ us hl => match us, hl with | [_, _], _ => rfl⟩
theorem fx__law_world (X : K.In h) (G : h.Ns mainGlobals mg) (c : He.SaysX fa fn [] tf (exT tps) w h K) : Fx K mg "_law_world" s__law_world P__law_world := by
  obtain ⟨fd, F⟩ := c.t.d.def_ 43 (d := d__law_world) rfl
  exact ⟨_, fd, He.glo_ok X G (c.t.d.fact 43 (f := .glo "_law_world") rfl), F, FunD.bindsN (ps := P__law_world) F fun _ _ _ _ _ _ us hl => match us, hl with | [_], _ => rfl⟩
theorem fx__law_behind (X : K.In h) (G : h.Ns mainGlobals mg) (c : He.SaysX fa fn [] tf (exT tps) w h K) : Fx K mg "_law_behind" s__law_behind P__law_behind := by
  obtain ⟨fd, F⟩ := c.t.d.def_ 44 (d := d__law_behind) rfl
  exact ⟨_, fd, He.glo_ok X G (c.t.d.fact 44 (f := .glo "_law_behind") rfl), F, FunD.bindsN (ps := P__law_behind) F fun _ _ _ _ _ _ us hl => match us, hl with | [_, _, _], _ => rfl⟩
theorem fx__law_state (X : K.In h) (G : h.Ns mainGlobals mg) (c : He.SaysX fa fn [] tf (exT tps) w h K) : Fx K mg "_law_state" s__law_state P__law_state := by
  obtain ⟨fd, F⟩ := c.t.d.def_ 45 (d := d__law_state) rfl
  exact ⟨_, fd, He.glo_ok X G (c.t.d.fact 45 (f := .glo "_law_state") rfl), F, FunD.bindsN (ps := P__law_state) F fun _ _ _ _ _ _ us hl => match us, hl with | [_, _], _ => rfl⟩
theorem fx__law_bad (X : K.In h) (G : h.Ns mainGlobals mg) (c : He.SaysX fa fn [] tf (exT tps) w h K) : Fx K mg "_law_bad" s__law_bad P__law_bad := by
  obtain ⟨fd, F⟩ := c.t.d.def_ 46 (d := d__law_bad) rfl
  exact ⟨_, fd, He.glo_ok X G (c.t.d.fact 46 (f := .glo "_law_bad") rfl), F, FunD.bindsN (ps := P__law_bad) F fun _ _ _ _ _ _ us hl => match us, hl with | [_, _], _ => rfl⟩
theorem fx__law_meets (X : K.In h) (G : h.Ns mainGlobals mg) (c : He.SaysX fa fn [] tf (exT tps) w h K) : Fx K mg "_law_meets" s__law_meets P__law_meets := by
  obtain ⟨fd, F⟩ := c.t.d.def_ 47 (d := d__law_meets) rfl
  exact ⟨_, fd, He.glo_ok X G (c.t.d.fact 47 (f := .glo "_law_meets") rfl), F, FunD.bindsN (ps := P__law_meets) F fun _ _ _ _ _ _ us hl => match us, hl with | [_, _], _ => rfl⟩
theorem fx__law_script (X : K.In h) (G : h.Ns mainGlobals mg) (c : He.SaysX fa fn [] tf (exT tps) w h K) : Fx K mg "_law_script" s__law_script P__law_script := by
  obtain ⟨fd, F⟩ := c.t.d.def_ 48 (d := d__law_script) rfl
  exact ⟨_, fd, He.glo_ok X G (c.t.d.fact 48 (f := .glo "_law_script") rfl), F, FunD.bindsN (ps := P__law_script) F fun _ _ _ _ _ _ us hl => match us, hl with | [_, _, _], _ => rfl⟩
theorem fx__law_deeds (X : K.In h) (G : h.Ns mainGlobals mg) (c : He.SaysX fa fn [] tf (exT tps) w h K) : Fx K mg "_law_deeds" s__law_deeds P__law_deeds := by
  obtain ⟨fd, F⟩ := c.t.d.def_ 49 (d := d__law_deeds) rfl
  exact ⟨_, fd, He.glo_ok X G (c.t.d.fact 49 (f := .glo "_law_deeds") rfl), F, FunD.bindsN (ps := P__law_deeds) F fun _ _ _ _ _ _ us hl => match us, hl with | [_], _ => rfl⟩
theorem fx__law_is_integer (X : K.In h) (G : h.Ns mainGlobals mg) (c : He.SaysX fa fn [] tf (exT tps) w h K) : Fx K mg "_law_is_integer" s__law_is_integer P__law_is_integer := by
  obtain ⟨fd, F⟩ := c.t.d.def_ 50 (d := d__law_is_integer) rfl
  exact ⟨_, fd, He.glo_ok X G (c.t.d.fact 50 (f := .glo "_law_is_integer") rfl), F, FunD.bindsN (ps := P__law_is_integer) F fun _ _ _ _ _ _ us hl => match us, hl with | [_, _, _], _ => rfl⟩
theorem fx__law_met_asks (X : K.In h) (G : h.Ns mainGlobals mg) (c : He.SaysX fa fn [] tf (exT tps) w h K) : Fx K mg "_law_met_asks" s__law_met_asks P__law_met_asks := by
  obtain ⟨fd, F⟩ := c.t.d.def_ 51 (d := d__law_met_asks) rfl
  exact ⟨_, fd, He.glo_ok X G (c.t.d.fact 51 (f := .glo "_law_met_asks") rfl), F, FunD.bindsN (ps := P__law_met_asks) F fun _ _ _ _ _ _ us hl => match us, hl with | [_, _, _, _], _ => rfl⟩
theorem fx__law_echoed (X : K.In h) (G : h.Ns mainGlobals mg) (c : He.SaysX fa fn [] tf (exT tps) w h K) : Fx K mg "_law_echoed" s__law_echoed P__law_echoed := by
  obtain ⟨fd, F⟩ := c.t.d.def_ 52 (d := d__law_echoed) rfl
  exact ⟨_, fd, He.glo_ok X G (c.t.d.fact 52 (f := .glo "_law_echoed") rfl), F, FunD.bindsN (ps := P__law_echoed) F fun _ _ _ _ _ _ us hl => match us, hl with | [_, _, _], _ => rfl⟩
theorem fx__law_again (X : K.In h) (G : h.Ns mainGlobals mg) (c : He.SaysX fa fn [] tf (exT tps) w h K) : Fx K mg "_law_again" s__law_again P__law_again := by
  obtain ⟨fd, F⟩ := c.t.d.def_ 53 (d := d__law_again) rfl
  exact ⟨_, fd, He.glo_ok X G (c.t.d.fact 53 (f := .glo "_law_again") rfl), F, FunD.bindsN (ps := P__law_again) F fun _ _ _ _ _ _ us hl => match us, hl with | [_, _, _], _ => rfl⟩
theorem fx__law_breaking (X : K.In h) (G : h.Ns mainGlobals mg) (c : He.SaysX fa fn [] tf (exT tps) w h K) : Fx K mg "_law_breaking" s__law_breaking P__law_breaking := by
  obtain ⟨fd, F⟩ := c.t.d.def_ 54 (d := d__law_breaking) rfl
  exact ⟨_, fd, He.glo_ok X G (c.t.d.fact 54 (f := .glo "_law_breaking") rfl), F, FunD.bindsN (ps := P__law_breaking) F fun _ _ _ _ _ _ us hl => match us, hl with | [_, _, _], _ => rfl⟩
theorem fx__law_is_harmless (X : K.In h) (G : h.Ns mainGlobals mg) (c : He.SaysX fa fn [] tf (exT tps) w h K) : Fx K mg "_law_is_harmless" s__law_is_harmless P__law_is_harmless := by
  obtain ⟨fd, F⟩ := c.t.d.def_ 55 (d := d__law_is_harmless) rfl
  exact ⟨_, fd, He.glo_ok X G (c.t.d.fact 55 (f := .glo "_law_is_harmless") rfl), F, FunD.bindsN (ps := P__law_is_harmless) F fun _ _ _ _ _ _ us hl => match us, hl with | [_, _], _ => rfl⟩
theorem fx__law_calm (X : K.In h) (G : h.Ns mainGlobals mg) (c : He.SaysX fa fn [] tf (exT tps) w h K) : Fx K mg "_law_calm" s__law_calm P__law_calm := by
  obtain ⟨fd, F⟩ := c.t.d.def_ 56 (d := d__law_calm) rfl
  exact ⟨_, fd, He.glo_ok X G (c.t.d.fact 56 (f := .glo "_law_calm") rfl), F, FunD.bindsN (ps := P__law_calm) F fun _ _ _ _ _ _ us hl => match us, hl with | [_, _, _], _ => rfl⟩
theorem fx__law_is_right (X : K.In h) (G : h.Ns mainGlobals mg) (c : He.SaysX fa fn [] tf (exT tps) w h K) : Fx K mg "_law_is_right" s__law_is_right P__law_is_right := by
  obtain ⟨fd, F⟩ := c.t.d.def_ 57 (d := d__law_is_right) rfl
  exact ⟨_, fd, He.glo_ok X G (c.t.d.fact 57 (f := .glo "_law_is_right") rfl), F, FunD.bindsN (ps := P__law_is_right) F fun _ _ _ _ _ _ us hl => match us, hl with | [_, _], _ => rfl⟩
theorem fx__law_holds (X : K.In h) (G : h.Ns mainGlobals mg) (c : He.SaysX fa fn [] tf (exT tps) w h K) : Fx K mg "_law_holds" s__law_holds P__law_holds := by
  obtain ⟨fd, F⟩ := c.t.d.def_ 58 (d := d__law_holds) rfl
  exact ⟨_, fd, He.glo_ok X G (c.t.d.fact 58 (f := .glo "_law_holds") rfl), F, FunD.bindsN (ps := P__law_holds) F fun _ _ _ _ _ _ us hl => match us, hl with | [_, _, _, _], _ => rfl⟩
theorem fx__law_things (X : K.In h) (G : h.Ns mainGlobals mg) (c : He.SaysX fa fn [] tf (exT tps) w h K) : Fx K mg "_law_things" s__law_things P__law_things := by
  obtain ⟨fd, F⟩ := c.t.d.def_ 59 (d := d__law_things) rfl
  exact ⟨_, fd, He.glo_ok X G (c.t.d.fact 59 (f := .glo "_law_things") rfl), F, FunD.bindsN (ps := P__law_things) F fun _ _ _ _ _ _ us hl => match us, hl with | [_, _], _ => rfl⟩
theorem facts {f : Addr} (X : K.In h) (G : h.Ns mainGlobals mg) (hfa : mg ("law" : Str) = some (.ref f)) (c : He.SaysX fa fn [] tf (exT tps) w h K) : LamX.LawAtS PySem.Challenge.rw_pourasked_k89_whole_echoes_by_all_trials w K CX0 12 63 "script" mg f h := by
  obtain ⟨fd, F⟩ := c.t.d.def_ 60 (d := d_law) rfl
  have e := hfa.symm.trans (He.glo_ok X G (c.t.d.fact 60 (f := .glo "law") rfl))
  cases e
  have b := FunD.bindsA (ps := ["script"]) F fun _ _ _ _ _ _ us hl => match us, hl with | [_], _ => rfl
  have gs := gs_ok X G c
  have hm : ∀ p ∈ tf.map (He.cT K), ∃ q ∈ tf, p = He.cT K q := fun p hp => by
    obtain ⟨q, hq, e⟩ := List.mem_map.mp hp
    exact ⟨q, hq, e.symm⟩
  refine ⟨fd, tf.map (He.cT K), spOf0 K ⟨dkn, [((He.cT K ("does_meet", none)).2, "does_meet.<locals>.<lambda>")]⟩ S_law, fun p hp => ?_, fun p hp => ?_, fun p hp => ?_, fun s v => b s [v] rfl, fun H a ns hl _ hT hS => ?_, fun base hB hN TB => ?_⟩
  · obtain ⟨q, hq, rfl⟩ := hm p hp; exact c.empty q hq
  · obtain ⟨q, hq, rfl⟩ := hm p hp; exact c.out q hq
  · obtain ⟨q, hq, rfl⟩ := hm p hp; exact PySem.W.codeHd_of_K X (c.hd q hq)
  · refine law_sp (fun p hp => ?_) hS ⟨ns, rfl, hl, rfl⟩ fun _ => rfl
    rw [List.mem_singleton] at hp; subst hp
    exact hT (He.cT K ("does_meet", none)) (by simp [tf])
  · have c_is_integer : Cal (PySem.Challenge.rw_pourasked_k89_whole_echoes_by_all_trials).prog w K mg base ⟨dkn, [((He.cT K ("does_meet", none)).2, "does_meet.<locals>.<lambda>")]⟩ 1 "is_integer" s_is_integer P_is_integer S_is_integer := j_is_integer gs (fx_is_integer X G c)
    have c_is_between : Cal (PySem.Challenge.rw_pourasked_k89_whole_echoes_by_all_trials).prog w K mg base ⟨dkn, [((He.cT K ("does_meet", none)).2, "does_meet.<locals>.<lambda>")]⟩ 2 "is_between" s_is_between P_is_between S_is_between := j_is_between gs (fx_is_between X G c) c_is_integer
    have c_is_pair_of : Cal (PySem.Challenge.rw_pourasked_k89_whole_echoes_by_all_trials).prog w K mg base ⟨dkn, [((He.cT K ("does_meet", none)).2, "does_meet.<locals>.<lambda>")]⟩ 3 "is_pair_of" s_is_pair_of P_is_pair_of S_is_pair_of := j_is_pair_of gs (fx_is_pair_of X G c) c_is_between
    have c_is_book_value : Cal (PySem.Challenge.rw_pourasked_k89_whole_echoes_by_all_trials).prog w K mg base ⟨dkn, [((He.cT K ("does_meet", none)).2, "does_meet.<locals>.<lambda>")]⟩ 4 "is_book_value" s_is_book_value P_is_book_value S_is_book_value := j_is_book_value gs (fx_is_book_value X G c) c_is_between c_is_pair_of
    have c_need_book : Cal (PySem.Challenge.rw_pourasked_k89_whole_echoes_by_all_trials).prog w K mg base ⟨dkn, [((He.cT K ("does_meet", none)).2, "does_meet.<locals>.<lambda>")]⟩ 5 "need_book" s_need_book P_need_book S_need_book := j_need_book gs (fx_need_book X G c) c_is_book_value
    have c_lows : Cal (PySem.Challenge.rw_pourasked_k89_whole_echoes_by_all_trials).prog w K mg base ⟨dkn, [((He.cT K ("does_meet", none)).2, "does_meet.<locals>.<lambda>")]⟩ 1 "lows" s_lows P_lows S_lows := j_lows gs (fx_lows X G c)
    have c_highs : Cal (PySem.Challenge.rw_pourasked_k89_whole_echoes_by_all_trials).prog w K mg base ⟨dkn, [((He.cT K ("does_meet", none)).2, "does_meet.<locals>.<lambda>")]⟩ 1 "highs" s_highs P_highs S_highs := j_highs gs (fx_highs X G c)
    have c_hill_of_lows : Cal (PySem.Challenge.rw_pourasked_k89_whole_echoes_by_all_trials).prog w K mg base ⟨dkn, [((He.cT K ("does_meet", none)).2, "does_meet.<locals>.<lambda>")]⟩ 1 "hill_of_lows" s_hill_of_lows P_hill_of_lows S_hill_of_lows := j_hill_of_lows gs (fx_hill_of_lows X G c)
    have c_closing_of : Cal (PySem.Challenge.rw_pourasked_k89_whole_echoes_by_all_trials).prog w K mg base ⟨dkn, [((He.cT K ("does_meet", none)).2, "does_meet.<locals>.<lambda>")]⟩ 2 "closing_of" s_closing_of P_closing_of S_closing_of := j_closing_of gs (fx_closing_of X G c) c_lows c_hill_of_lows
    have c_mask_of : Cal (PySem.Challenge.rw_pourasked_k89_whole_echoes_by_all_trials).prog w K mg base ⟨dkn, [((He.cT K ("does_meet", none)).2, "does_meet.<locals>.<lambda>")]⟩ 1 "mask_of" s_mask_of P_mask_of S_mask_of := j_mask_of gs (fx_mask_of X G c)
    have c_lot_of : Cal (PySem.Challenge.rw_pourasked_k89_whole_echoes_by_all_trials).prog w K mg base ⟨dkn, [((He.cT K ("does_meet", none)).2, "does_meet.<locals>.<lambda>")]⟩ 1 "lot_of" s_lot_of P_lot_of S_lot_of := j_lot_of gs (fx_lot_of X G c)
    have c_is_lot_value : Cal (PySem.Challenge.rw_pourasked_k89_whole_echoes_by_all_trials).prog w K mg base ⟨dkn, [((He.cT K ("does_meet", none)).2, "does_meet.<locals>.<lambda>")]⟩ 3 "is_lot_value" s_is_lot_value P_is_lot_value S_is_lot_value := j_is_lot_value gs (fx_is_lot_value X G c) c_is_between
    have c_closed_mask : Cal (PySem.Challenge.rw_pourasked_k89_whole_echoes_by_all_trials).prog w K mg base ⟨dkn, [((He.cT K ("does_meet", none)).2, "does_meet.<locals>.<lambda>")]⟩ 2 "closed_mask" s_closed_mask P_closed_mask S_closed_mask := j_closed_mask gs (fx_closed_mask X G c) c_lot_of
    have c_lower_mask : Cal (PySem.Challenge.rw_pourasked_k89_whole_echoes_by_all_trials).prog w K mg base ⟨dkn, [((He.cT K ("does_meet", none)).2, "does_meet.<locals>.<lambda>")]⟩ 3 "lower_mask" s_lower_mask P_lower_mask S_lower_mask := j_lower_mask gs (fx_lower_mask X G c) c_closed_mask c_lows
    have c_upper_mask : Cal (PySem.Challenge.rw_pourasked_k89_whole_echoes_by_all_trials).prog w K mg base ⟨dkn, [((He.cT K ("does_meet", none)).2, "does_meet.<locals>.<lambda>")]⟩ 3 "upper_mask" s_upper_mask P_upper_mask S_upper_mask := j_upper_mask gs (fx_upper_mask X G c) c_closed_mask c_highs
    have c_is_lower_value : Cal (PySem.Challenge.rw_pourasked_k89_whole_echoes_by_all_trials).prog w K mg base ⟨dkn, [((He.cT K ("does_meet", none)).2, "does_meet.<locals>.<lambda>")]⟩ 4 "is_lower_value" s_is_lower_value P_is_lower_value S_is_lower_value := j_is_lower_value gs (fx_is_lower_value X G c) c_is_lot_value c_lower_mask c_mask_of
    have c_is_upper_value : Cal (PySem.Challenge.rw_pourasked_k89_whole_echoes_by_all_trials).prog w K mg base ⟨dkn, [((He.cT K ("does_meet", none)).2, "does_meet.<locals>.<lambda>")]⟩ 4 "is_upper_value" s_is_upper_value P_is_upper_value S_is_upper_value := j_is_upper_value gs (fx_is_upper_value X G c) c_is_lot_value c_upper_mask c_mask_of
    have c_is_kind_value : Cal (PySem.Challenge.rw_pourasked_k89_whole_echoes_by_all_trials).prog w K mg base ⟨dkn, [((He.cT K ("does_meet", none)).2, "does_meet.<locals>.<lambda>")]⟩ 5 "is_kind_value" s_is_kind_value P_is_kind_value S_is_kind_value := j_is_kind_value gs (fx_is_kind_value X G c) c_is_lower_value c_is_upper_value
    have c_standing_of : Cal (PySem.Challenge.rw_pourasked_k89_whole_echoes_by_all_trials).prog w K mg base ⟨dkn, [((He.cT K ("does_meet", none)).2, "does_meet.<locals>.<lambda>")]⟩ 1 "standing_of" s_standing_of P_standing_of S_standing_of := j_standing_of gs (fx_standing_of X G c)
    have l_does_meet_lam : LamP (PySem.Challenge.rw_pourasked_k89_whole_echoes_by_all_trials).prog w K mg base ⟨dkn, [((He.cT K ("does_meet", none)).2, "does_meet.<locals>.<lambda>")]⟩ 3 L_does_meet_lam S_lam := LamP.mono (jl_does_meet_lam gs c_standing_of) (by decide)
    have c_is_deed_value : Cal (PySem.Challenge.rw_pourasked_k89_whole_echoes_by_all_trials).prog w K mg base ⟨dkn, [((He.cT K ("does_meet", none)).2, "does_meet.<locals>.<lambda>")]⟩ 3 "is_deed_value" s_is_deed_value P_is_deed_value S_is_deed_value := j_is_deed_value gs (fx_is_deed_value X G c) c_is_between
    have c_is_script_value : Cal (PySem.Challenge.rw_pourasked_k89_whole_echoes_by_all_trials).prog w K mg base ⟨dkn, [((He.cT K ("does_meet", none)).2, "does_meet.<locals>.<lambda>")]⟩ 4 "is_script_value" s_is_script_value P_is_script_value S_is_script_value := j_is_script_value gs (fx_is_script_value X G c) c_is_deed_value
    have c_need_script : Cal (PySem.Challenge.rw_pourasked_k89_whole_echoes_by_all_trials).prog w K mg base ⟨dkn, [((He.cT K ("does_meet", none)).2, "does_meet.<locals>.<lambda>")]⟩ 5 "need_script" s_need_script P_need_script S_need_script := j_need_script gs (fx_need_script X G c) c_is_script_value
    have c_left_by : Cal (PySem.Challenge.rw_pourasked_k89_whole_echoes_by_all_trials).prog w K mg base ⟨dkn, [((He.cT K ("does_meet", none)).2, "does_meet.<locals>.<lambda>")]⟩ 1 "left_by" s_left_by P_left_by S_left_by := j_left_by gs (fx_left_by X G c)
    have c_does_reach : Cal (PySem.Challenge.rw_pourasked_k89_whole_echoes_by_all_trials).prog w K mg base ⟨dkn, [((He.cT K ("does_meet", none)).2, "does_meet.<locals>.<lambda>")]⟩ 1 "does_reach" s_does_reach P_does_reach S_does_reach := j_does_reach gs (fx_does_reach X G c)
    have c_are_allowed : Cal (PySem.Challenge.rw_pourasked_k89_whole_echoes_by_all_trials).prog w K mg base ⟨dkn, [((He.cT K ("does_meet", none)).2, "does_meet.<locals>.<lambda>")]⟩ 1 "are_allowed" s_are_allowed P_are_allowed S_are_allowed := j_are_allowed gs (fx_are_allowed X G c)
    have c_is_ask : Cal (PySem.Challenge.rw_pourasked_k89_whole_echoes_by_all_trials).prog w K mg base ⟨dkn, [((He.cT K ("does_meet", none)).2, "does_meet.<locals>.<lambda>")]⟩ 6 "is_ask" s_is_ask P_is_ask S_is_ask := j_is_ask gs (fx_is_ask X G c) c_is_kind_value c_are_allowed
    have c_are_asks_value : Cal (PySem.Challenge.rw_pourasked_k89_whole_echoes_by_all_trials).prog w K mg base ⟨dkn, [((He.cT K ("does_meet", none)).2, "does_meet.<locals>.<lambda>")]⟩ 7 "are_asks_value" s_are_asks_value P_are_asks_value S_are_asks_value := j_are_asks_value gs (fx_are_asks_value X G c) c_is_ask
    have c_are_met : Cal (PySem.Challenge.rw_pourasked_k89_whole_echoes_by_all_trials).prog w K mg base ⟨dkn, [((He.cT K ("does_meet", none)).2, "does_meet.<locals>.<lambda>")]⟩ 4 "are_met" s_are_met P_are_met S_are_met := j_are_met gs (fx_are_met X G c) l_does_meet_lam
    have c_need_asks : Cal (PySem.Challenge.rw_pourasked_k89_whole_echoes_by_all_trials).prog w K mg base ⟨dkn, [((He.cT K ("does_meet", none)).2, "does_meet.<locals>.<lambda>")]⟩ 8 "need_asks" s_need_asks P_need_asks S_need_asks := j_need_asks gs (fx_need_asks X G c) c_are_asks_value
    have c_does_meet : Cal (PySem.Challenge.rw_pourasked_k89_whole_echoes_by_all_trials).prog w K mg base ⟨dkn, [((He.cT K ("does_meet", none)).2, "does_meet.<locals>.<lambda>")]⟩ 5 "does_meet" s_does_meet P_does_meet S_does_meet := j_does_meet gs (fx_does_meet X G c) c_are_met (TB (He.cT K ("does_meet", none)) (by simp [tf])) (by simp) (by simp)
    have c_meets_asks : Cal (PySem.Challenge.rw_pourasked_k89_whole_echoes_by_all_trials).prog w K mg base ⟨dkn, [((He.cT K ("does_meet", none)).2, "does_meet.<locals>.<lambda>")]⟩ 9 "meets_asks" s_meets_asks P_meets_asks S_meets_asks := j_meets_asks gs (fx_meets_asks X G c) c_need_book c_need_script c_need_asks c_closing_of c_does_meet
    have c_reaching : Cal (PySem.Challenge.rw_pourasked_k89_whole_echoes_by_all_trials).prog w K mg base ⟨dkn, [((He.cT K ("does_meet", none)).2, "does_meet.<locals>.<lambda>")]⟩ 2 "reaching" s_reaching P_reaching S_reaching := j_reaching gs (fx_reaching X G c) c_does_reach
    have c_again : Cal (PySem.Challenge.rw_pourasked_k89_whole_echoes_by_all_trials).prog w K mg base ⟨dkn, [((He.cT K ("does_meet", none)).2, "does_meet.<locals>.<lambda>")]⟩ 1 "again" s_again P_again S_again := j_again gs (fx_again X G c)
    have c_first_echo : Cal (PySem.Challenge.rw_pourasked_k89_whole_echoes_by_all_trials).prog w K mg base ⟨dkn, [((He.cT K ("does_meet", none)).2, "does_meet.<locals>.<lambda>")]⟩ 3 "first_echo" s_first_echo P_first_echo S_first_echo := j_first_echo gs (fx_first_echo X G c) c_reaching c_left_by
    have c_need_question : Cal (PySem.Challenge.rw_pourasked_k89_whole_echoes_by_all_trials).prog w K mg base ⟨dkn, [((He.cT K ("does_meet", none)).2, "does_meet.<locals>.<lambda>")]⟩ 9 "need_question" s_need_question P_need_question S_need_question := j_need_question gs (fx_need_question X G c) c_need_book c_need_script c_need_asks c_closing_of c_does_meet
    have c_judge_echo : Cal (PySem.Challenge.rw_pourasked_k89_whole_echoes_by_all_trials).prog w K mg base ⟨dkn, [((He.cT K ("does_meet", none)).2, "does_meet.<locals>.<lambda>")]⟩ 10 "judge_echo" s_judge_echo P_judge_echo S_judge_echo := j_judge_echo gs (fx_judge_echo X G c) c_need_question c_first_echo
    have c_is_echo : Cal (PySem.Challenge.rw_pourasked_k89_whole_echoes_by_all_trials).prog w K mg base ⟨dkn, [((He.cT K ("does_meet", none)).2, "does_meet.<locals>.<lambda>")]⟩ 6 "is_echo" s_is_echo P_is_echo S_is_echo := j_is_echo gs (fx_is_echo X G c) c_is_between c_does_meet c_again
    have c_echo_holds : Cal (PySem.Challenge.rw_pourasked_k89_whole_echoes_by_all_trials).prog w K mg base ⟨dkn, [((He.cT K ("does_meet", none)).2, "does_meet.<locals>.<lambda>")]⟩ 10 "echo_holds" s_echo_holds P_echo_holds S_echo_holds := j_echo_holds gs (fx_echo_holds X G c) c_need_question c_first_echo c_is_echo
    have c__law_deck : Cal (PySem.Challenge.rw_pourasked_k89_whole_echoes_by_all_trials).prog w K mg base ⟨dkn, [((He.cT K ("does_meet", none)).2, "does_meet.<locals>.<lambda>")]⟩ 1 "_law_deck" s__law_deck P__law_deck S_deck := j__law_deck gs (fx__law_deck X G c)
    have c__law_draw : Cal (PySem.Challenge.rw_pourasked_k89_whole_echoes_by_all_trials).prog w K mg base ⟨dkn, [((He.cT K ("does_meet", none)).2, "does_meet.<locals>.<lambda>")]⟩ 1 "_law_draw" s__law_draw P__law_draw S_draw := j__law_draw gs (fx__law_draw X G c)
    have c__law_pick : Cal (PySem.Challenge.rw_pourasked_k89_whole_echoes_by_all_trials).prog w K mg base ⟨dkn, [((He.cT K ("does_meet", none)).2, "does_meet.<locals>.<lambda>")]⟩ 2 "_law_pick" s__law_pick P__law_pick S_pick := j__law_pick gs (fx__law_pick X G c) c__law_draw
    have c__law_same : Cal (PySem.Challenge.rw_pourasked_k89_whole_echoes_by_all_trials).prog w K mg base ⟨dkn, [((He.cT K ("does_meet", none)).2, "does_meet.<locals>.<lambda>")]⟩ 6 "_law_same" s__law_same P__law_same S_same := j__law_same gs (fx__law_same X G c)
    have c__law_book : Cal (PySem.Challenge.rw_pourasked_k89_whole_echoes_by_all_trials).prog w K mg base ⟨dkn, [((He.cT K ("does_meet", none)).2, "does_meet.<locals>.<lambda>")]⟩ 3 "_law_book" s__law_book P__law_book S_book := j__law_book gs (fx__law_book X G c) c__law_pick c__law_draw
    have c__law_world : Cal (PySem.Challenge.rw_pourasked_k89_whole_echoes_by_all_trials).prog w K mg base ⟨dkn, [((He.cT K ("does_meet", none)).2, "does_meet.<locals>.<lambda>")]⟩ 1 "_law_world" s__law_world P__law_world S_world := j__law_world gs (fx__law_world X G c)
    have c__law_behind : Cal (PySem.Challenge.rw_pourasked_k89_whole_echoes_by_all_trials).prog w K mg base ⟨dkn, [((He.cT K ("does_meet", none)).2, "does_meet.<locals>.<lambda>")]⟩ 1 "_law_behind" s__law_behind P__law_behind S_behind := j__law_behind gs (fx__law_behind X G c)
    have c__law_state : Cal (PySem.Challenge.rw_pourasked_k89_whole_echoes_by_all_trials).prog w K mg base ⟨dkn, [((He.cT K ("does_meet", none)).2, "does_meet.<locals>.<lambda>")]⟩ 2 "_law_state" s__law_state P__law_state S_state := j__law_state gs (fx__law_state X G c) c__law_behind
    have c__law_bad : Cal (PySem.Challenge.rw_pourasked_k89_whole_echoes_by_all_trials).prog w K mg base ⟨dkn, [((He.cT K ("does_meet", none)).2, "does_meet.<locals>.<lambda>")]⟩ 1 "_law_bad" s__law_bad P__law_bad S_bad := j__law_bad gs (fx__law_bad X G c)
    have c__law_meets : Cal (PySem.Challenge.rw_pourasked_k89_whole_echoes_by_all_trials).prog w K mg base ⟨dkn, [((He.cT K ("does_meet", none)).2, "does_meet.<locals>.<lambda>")]⟩ 1 "_law_meets" s__law_meets P__law_meets S_lmeets := j__law_meets gs (fx__law_meets X G c)
    have c__law_script : Cal (PySem.Challenge.rw_pourasked_k89_whole_echoes_by_all_trials).prog w K mg base ⟨dkn, [((He.cT K ("does_meet", none)).2, "does_meet.<locals>.<lambda>")]⟩ 3 "_law_script" s__law_script P__law_script S_script := j__law_script gs (fx__law_script X G c) c__law_draw c__law_pick
    have c__law_deeds : Cal (PySem.Challenge.rw_pourasked_k89_whole_echoes_by_all_trials).prog w K mg base ⟨dkn, [((He.cT K ("does_meet", none)).2, "does_meet.<locals>.<lambda>")]⟩ 1 "_law_deeds" s__law_deeds P__law_deeds S_deeds := j__law_deeds gs (fx__law_deeds X G c)
    have c__law_is_integer : Cal (PySem.Challenge.rw_pourasked_k89_whole_echoes_by_all_trials).prog w K mg base ⟨dkn, [((He.cT K ("does_meet", none)).2, "does_meet.<locals>.<lambda>")]⟩ 1 "_law_is_integer" s__law_is_integer P__law_is_integer S_isint := j__law_is_integer gs (fx__law_is_integer X G c)
    have c__law_met_asks : Cal (PySem.Challenge.rw_pourasked_k89_whole_echoes_by_all_trials).prog w K mg base ⟨dkn, [((He.cT K ("does_meet", none)).2, "does_meet.<locals>.<lambda>")]⟩ 3 "_law_met_asks" s__law_met_asks P__law_met_asks S_met := j__law_met_asks gs (fx__law_met_asks X G c) c__law_state c__law_draw
    have c__law_echoed : Cal (PySem.Challenge.rw_pourasked_k89_whole_echoes_by_all_trials).prog w K mg base ⟨dkn, [((He.cT K ("does_meet", none)).2, "does_meet.<locals>.<lambda>")]⟩ 4 "_law_echoed" s__law_echoed P__law_echoed S_echoed := j__law_echoed gs (fx__law_echoed X G c) c__law_deeds c__law_script c__law_pick c__law_draw
    have c__law_again : Cal (PySem.Challenge.rw_pourasked_k89_whole_echoes_by_all_trials).prog w K mg base ⟨dkn, [((He.cT K ("does_meet", none)).2, "does_meet.<locals>.<lambda>")]⟩ 1 "_law_again" s__law_again P__law_again S_again := j__law_again gs (fx__law_again X G c)
    have c__law_breaking : Cal (PySem.Challenge.rw_pourasked_k89_whole_echoes_by_all_trials).prog w K mg base ⟨dkn, [((He.cT K ("does_meet", none)).2, "does_meet.<locals>.<lambda>")]⟩ 2 "_law_breaking" s__law_breaking P__law_breaking S_breaking := j__law_breaking gs (fx__law_breaking X G c) c__law_behind c__law_meets
    have c__law_is_harmless : Cal (PySem.Challenge.rw_pourasked_k89_whole_echoes_by_all_trials).prog w K mg base ⟨dkn, [((He.cT K ("does_meet", none)).2, "does_meet.<locals>.<lambda>")]⟩ 1 "_law_is_harmless" s__law_is_harmless P__law_is_harmless S_harmless := j__law_is_harmless gs (fx__law_is_harmless X G c)
    have c__law_calm : Cal (PySem.Challenge.rw_pourasked_k89_whole_echoes_by_all_trials).prog w K mg base ⟨dkn, [((He.cT K ("does_meet", none)).2, "does_meet.<locals>.<lambda>")]⟩ 4 "_law_calm" s__law_calm P__law_calm S_calm := j__law_calm gs (fx__law_calm X G c) c__law_deeds c__law_is_harmless c__law_script
    have c__law_is_right : Cal (PySem.Challenge.rw_pourasked_k89_whole_echoes_by_all_trials).prog w K mg base ⟨dkn, [((He.cT K ("does_meet", none)).2, "does_meet.<locals>.<lambda>")]⟩ 2 "_law_is_right" s__law_is_right P__law_is_right S_right := j__law_is_right gs (fx__law_is_right X G c) c__law_is_integer
    have c__law_holds : Cal (PySem.Challenge.rw_pourasked_k89_whole_echoes_by_all_trials).prog w K mg base ⟨dkn, [((He.cT K ("does_meet", none)).2, "does_meet.<locals>.<lambda>")]⟩ 11 "_law_holds" s__law_holds P__law_holds S_holds := j__law_holds gs (fx__law_holds X G c) c__law_is_right c__law_same c_echo_holds
    have c__law_things : Cal (PySem.Challenge.rw_pourasked_k89_whole_echoes_by_all_trials).prog w K mg base ⟨dkn, [((He.cT K ("does_meet", none)).2, "does_meet.<locals>.<lambda>")]⟩ 3 "_law_things" s__law_things P__law_things S_things := j__law_things gs (fx__law_things X G c) c__law_draw c__law_pick
    exact j_law gs c__law_deck c__law_world c__law_book c__law_echoed c__law_pick c__law_met_asks c__law_draw c__law_calm c__law_meets c__law_bad c__law_state c__law_breaking c_judge_echo c__law_is_right c__law_is_harmless c_meets_asks c__law_again c__law_things c__law_holds c__law_same F
end
end L89
open PySem PySem.W PySem.Calls PyProof.Rows
theorem PySem.Challenge.cw_pourasked_k89_whole_echoes_by_all_trials_holds : PySem.Challenge.rw_pourasked_k89_whole_echoes_by_all_trials.Holds := by
  w_on; o_law
  refine HandSHeadRun.head_any (r := OpenLaw.row PySem.Challenge.rw_pourasked_k89_whole_echoes_by_all_trials) (q := view (OpenLaw.row PySem.Challenge.rw_pourasked_k89_whole_echoes_by_all_trials).prog [81]) (H := L89.hk) (ob := L89.ob) (M := 4000) (loose := L89.lse) (d := HandSHeadRun.topDef (OpenLaw.row PySem.Challenge.rw_pourasked_k89_whole_echoes_by_all_trials).prog 81) (kwd := []) L89.ob_eq
    (by kernel_rfl) (fun s => by kernel_rfl) L89.run (by kernel_rfl) (by kernel_rfl) (by kernel_rfl) (by rfl) (by first | assumption | decide +kernel) (by decide +kernel) ⟨rfl, rfl, rfl, rfl, rfl, by decide +kernel⟩ ?hw ?hc
  case hw => w_witness2
  case hc =>
    refine LamX.walk_ofTsE (l := PySem.Challenge.rw_pourasked_k89_whole_echoes_by_all_trials) (n := 63) (k := 12) (x := "script") (CX := fun _ => L2.CX0) rfl (by decide) (by kernel_rfl) ⟨rfl, by decide, by decide⟩ ?F (fun _ _ _ _ _ z => z)
    intro w mg fa h Y G hmg0
    obtain ⟨K, KX, c⟩ := Y
    have hmg : mg ("law" : PySem.Str) = some (.ref fa) := by
      have e : (HandSHeadRun.topDef (OpenLaw.row PySem.Challenge.rw_pourasked_k89_whole_echoes_by_all_trials).prog 81).name = ("law" : PySem.Str) := by kernel_rfl
      rw [← e]
      exact hmg0
    exact ⟨K, KX, L89.facts KX G hmg c⟩
