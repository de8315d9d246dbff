import PyProof.Rows.All
import Wide.All
import OpenK.AllK
import Wide.FinOn
import KE.KStateDown
import HandS.Base
import HandS.Call
import HandS.Ends
import HandS.More
import HandS.Words
import HandS.WordsExc
import HandS.Defaults
import HandS.Head0
import HandS.Head1
import HandS.Head2
import HandS.HeadEnd
import HandS.HeadHook1
import HandS.HeadHook2
import HandS.ForMost
import HandS.MakeKw
import HandS.TupAny
import HandS.IsInst
import HandS.Deep
import HandS.HotCalls
import HandS.ExcInit
import HandS.ExcOwn
import HandS.Iter
import HandS.Wide
import HandS.TupMul
import HandS.Style
import HandS.WordsDict
import HandS.TupLen
import HandS.Codes
import HandS.Conv
import HandS.Text
import HandS.ListItems
import HandS.DictTup
import KE.KDictZip
import HandS.DictComp
import HandS.SetBool
import HandS.SetKeys
import HandS.OwnEq
import PyProof.InstNe
import PyProof.EqKinds
import KE.KEqDict
import PyProof.Rows.NestShow
import KE.KUnpackStar
import KE.GoesEnum
import HandS.ExcField
import HandS.TryMany
import HandS.Strs
import HandS.Flow
import HandS.SetFor
import HandS.Zip
import HandS.FStr
import KE.KDictList
import HandS.List
import PyProof.Rows.SortShellAny
import KE.KCallOwn
import PyProof.NeKinds
import HandS.Hot
import PyProof.WalkLemmas
import KE.KExcIs
import KE.KExcStr
import PyProof.ExcRepr
import HandS.ExcValue
import PySem.Challenge.RW_termproofs_k00_errors_of_proofs
set_option Elab.async false
set_option linter.all false
set_option maxRecDepth 100000
set_option maxHeartbeats 0
namespace Hd
open PySem PySem.Spec PyProof.Rows L2
def names0 : List PySem.Str := ["TermError", "Absent", "Ended", "NoName", "NoWords", "NoSigns", "NoSign", "NoWord", "Beyond", "Unended", "NoTerm", "NoTerms", "NoLetter", "NoPairs", "NoPutting", "NoWay", "NoNumber", "NoTruth", "NoNote", "NoList", "NoAsk", "NoRule", "NoRules", "NoRow", "NoShelf", "NoDeed", "NoText", "NoLine", "Unlike", "Twice"]
def names1 : List PySem.Str := ["TooMany", "TooGreat", "NoOrder", "NoWeights", "NoNames", "NotAdmitted", "NoEquations", "NotGround", "NotOrdered", "NotSame", "NoStep", "Unfinished", "NotLinear", "NoMakers", "NoCompleting", "NoModel", "NotThere", "NoSpot", "NoMore", "Changed", "Endless", "_law_cell", "_law_box", "_law_take", "_law_very", "_law_by_place", "_law_by_name", "_law_sorts", "_law_others", "_law_field"]
def names2 : List PySem.Str := ["_law_thing", "_law_caught", "_law_right"]
def names : List PySem.Str := names0 ++ names1 ++ names2
abbrev R : PySem.W.OpenRow := PySem.W.OpenLaw.row PySem.Challenge.rw_termproofs_k00_errors_of_proofs
open HandSHeadRun PySem.W in
theorem runS (w : World) (os : OsState) : (endF (stepQ (denQ tabQ) R.prog w) 20000 R.prog w os).map (fun s => seenQ (PySem.W.view R.prog [65]) names (importedModules R.prog.main.body) (fun s => xlAt (PySem.W.view R.prog [65]) [] s && recOk R.toRowW.records s) s.abs) = some (openGood (PySem.W.view R.prog [65]) names) := by
  kernel_rfl
open HandSHeadRun PySem.W in
theorem runK (w : World) (os : OsState) : (endF (stepQ (denQ tabQ) R.prog w) 20000 R.prog w os).map (fun s => looksF R.prog (boot_heap w.params) s.abs) = some true := by
  kernel_rfl
theorem join {α β γ : Type} {o : Option α} {f : α → β} {g : α → Bool} {h : α → γ × Bool} {a : β} {c : γ} (e1 : o.map f = some a) (e2 : o.map g = some true) (e3 : o.map (fun s => (h s).1) = some c) (e4 : o.map (fun s => (h s).2) = some true) : o.map (fun s => (g s, f s, h s)) = some (true, a, (c, true)) := by
  cases o with
  | none => cases e1
  | some s =>
    cases e1; cases e3
    have e2 : g s = true := Option.some.inj e2
    have e4 : (h s).2 = true := Option.some.inj e4
    have z : h s = ((h s).1, true) := Prod.ext rfl e4
    show some (g s, f s, h s) = some (true, f s, ((h s).1, true))
    rw [e2, ← z]
end Hd
set_option Elab.async false
set_option linter.all false
set_option maxRecDepth 100000
set_option maxHeartbeats 1000000
namespace L3
open PySem PySem.Spec PyProof.Rows L2
/-- data -/
inductive D where
  | non | bl (b : Bool) | int (i : Int) | str (x : Str)
  | lst (ds : List D) | tup (ds : List D)
  | dk (ks : List Key) (ds : List D)
  | dt (ks : List (List Key)) (ds : List D)
  | obj (C : Addr) (ns : List Str) (ds : List D)
  | box
  | raw (v : V)
  | scr (K : PySem.W.Frag) (ns : List Int)
  | cel (i : Nat)
  | exn (a C dx : Addr) (ns : List Str) (ds : List D)
  /-- an exception that is only a thing -/
  | exd (C : Addr) (m : Option Str) (ns : List Str) (ds : List D)
def Ex (H H' : Hp) : Prop := ∀ a o, H a = some o → H' a = some o
theorem Ex.refl (H : Hp) : Ex H H := fun _ _ h => h
theorem Ex.trans {H H1 H2 : Hp} (a : Ex H H1) (b : Ex H1 H2) : Ex H H2 := fun x o h => b x o (a x o h)
theorem Ex.new {H : Hp} {p : Addr} {o : HO} (h : H p = none) : Ex H (upd H p o) := fun a u e => by
  rw [upd_ne (ne_of_none e h)]
  exact e
theorem Ex.none {H H' : Hp} {p : Addr} (e : Ex H H') (h : H' p = none) : H p = none := by
  cases q : H p with
  | none => rfl
  | some o => rw [e p o q] at h; cases h
theorem Ex.rd {H H' : Hp} {a : Addr} {u : HO} (e : Ex H H') (h : Rd H a u) : Rd H' a u := by
  rcases h with h | ⟨o, h⟩
  · exact .inl (e a _ h)
  · exact .inr ⟨o, e a _ h⟩
theorem Ex.l {K : PySem.W.Frag} {H H' : Hp} {a : Addr} {xs : List V} (e : Ex H H') (h : SqL K H a xs) : SqL K H' a xs := by
  rcases h with h | h
  · exact .inl (e.rd h)
  · exact .inr h
theorem Ex.t {K : PySem.W.Frag} {H H' : Hp} {a : Addr} {xs : List V} (e : Ex H H') (h : SqT K H a xs) : SqT K H' a xs := by
  rcases h with h | h
  · exact .inl (e.rd h)
  · exact .inr h
/-- what is shared and may change: boxes of draws; cells -/
structure Sh where
  bx : Addr → Prop
  ad : List Addr
def Sh.has (s : Sh) (a : Addr) : Prop := s.bx a ∨ a ∈ s.ad
instance : CoeFun Sh (fun _ => Addr → Prop) := ⟨Sh.has⟩
structure Sh.Le (s t : Sh) : Prop where
  bx : ∀ b, s.bx b → t.bx b
  ad : s.ad <+: t.ad
theorem Sh.Le.refl {s : Sh} : s.Le s := ⟨fun _ h => h, List.prefix_refl _⟩
theorem Sh.Le.trans {s t u : Sh} (a : s.Le t) (b : t.Le u) : s.Le u := ⟨fun c h => b.bx c (a.bx c h), a.ad.trans b.ad⟩
theorem Sh.Le.has {s t : Sh} (a : s.Le t) (b : Addr) (h : s b) : t b := by
  rcases h with h | h
  · exact .inl (a.bx b h)
  · exact .inr (a.ad.subset h)
theorem Sh.Le.get {s t : Sh} (a : s.Le t) {i : Nat} {b : Addr} (h : s.ad[i]? = some b) : t.ad[i]? = some b := by
  obtain ⟨r, e⟩ := a.ad
  rw [← e, List.getElem?_append_left (List.getElem?_eq_some_iff.mp h).1]
  exact h
/-- what is told of an exception that stands as a thing: its class, its own dict, the tuple of its args -/
def IsX (a C : Addr) (od t : Option Addr) (o : HO) : Prop := ∃ φ : Heap → Prop, o = .ext φ ∧ ∀ h, φ h → ∃ (oe : Obj) (vs : Array Value), h.get? a = some oe ∧ oe.cls = .ref C ∧ oe.dict = od ∧ oe.data = .fields vs ∧ ∀ b, t = some b → vs[0]? = some (.ref b)
/-- its dict -/
def IsXd (dx : Addr) (fs : List (Str × V)) (o : HO) : Prop := o = .xd fs ∨ o = exd dx fs
def kOk : Key → Bool
  | .inl _ => true
  | .inr x => PyData.strOk x
def kOkT (k : List Key) : Bool := k.all kOk
section
variable (B : Sh) (G : Hp)
mutual
def DR : D → V → Prop
  | .non, v => v = .non
  | .bl b, v => v = .bl b
  | .int i, v => v = .int i
  | .str x, v => v = .str x ∧ PyData.strOk x = true
  | .lst ds, v => ∃ a xs, v = .ref a ∧ G a = some (.lst xs) ∧ DRs ds xs
  | .tup ds, v => ∃ a xs, v = .ref a ∧ G a = some (.tup xs) ∧ DRs ds xs
  | .dk ks ds, v => ∃ a kvs od, v = .ref a ∧ G a = some (.frz od (.dK kvs)) ∧ kvs.map (·.1) = ks ∧ ks.all kOk = true ∧ DRs ds (kvs.map (·.2))
  | .dt ks ds, v => ∃ a kvs od, v = .ref a ∧ G a = some (.frz od (.dT kvs)) ∧ kvs.map (·.1) = ks ∧ ks.all kOkT = true ∧ DRs ds (kvs.map (·.2))
  | .obj C ns ds, v => ∃ a dx fs, v = .ref a ∧ G a = some (.ins C dx fs) ∧ fs.map (·.1) = ns ∧ DRs ds (fs.map (·.2))
  | .box, v => ∃ b, v = .ref b ∧ B.bx b
  | .raw w, v => v = w
  | .scr K ns, v => ∃ a, v = .ref a ∧ SqL K G a (ns.map V.int)
  | .cel i, v => ∃ a, v = .ref a ∧ B.ad[i]? = some a
  | .exn a _ dx ns ds, v => ∃ fs, v = .ref a ∧ G dx = some (.xd fs) ∧ fs.map (·.1) = ns ∧ DRs ds (fs.map (·.2))
  | .exd C m ns ds, v => ∃ a o od t fs, v = .ref a ∧ G a = some o ∧ IsX a C od t o ∧ (∀ x, m = some x → ∃ b, t = some b ∧ G b = some (.tup [.str x])) ∧ (∀ dx, od = some dx → ∃ u, G dx = some u ∧ IsXd dx fs u) ∧ (od = none → fs = []) ∧ fs.map (·.1) = ns ∧ DRs ds (fs.map (·.2))
def DRs : List D → List V → Prop
  | [], xs => xs = []
  | d :: ds, xs => ∃ v vs, xs = v :: vs ∧ DR d v ∧ DRs ds vs
end
end
section
variable {B B' : Sh} {G G' : Hp}
mutual
theorem DR.mono (e : Ex G G') (hb : B.Le B') : ∀ (d : D) (v : V), DR B G d v → DR B' G' d v
  | .non, v, h => by unfold DR at *; exact h
  | .bl b, v, h => by unfold DR at *; exact h
  | .int i, v, h => by unfold DR at *; exact h
  | .str x, v, h => by unfold DR at *; exact h
  | .lst ds, v, h => by
    unfold DR at *
    obtain ⟨a, xs, r, s, t⟩ := h
    exact ⟨a, xs, r, e _ _ s, DRs.mono e hb ds xs t⟩
  | .tup ds, v, h => by
    unfold DR at *
    obtain ⟨a, xs, r, s, t⟩ := h
    exact ⟨a, xs, r, e _ _ s, DRs.mono e hb ds xs t⟩
  | .dk ks ds, v, h => by
    unfold DR at *
    obtain ⟨a, xs, od, r, s, u, k, t⟩ := h
    exact ⟨a, xs, od, r, e _ _ s, u, k, DRs.mono e hb ds _ t⟩
  | .dt ks ds, v, h => by
    unfold DR at *
    obtain ⟨a, xs, od, r, s, u, k, t⟩ := h
    exact ⟨a, xs, od, r, e _ _ s, u, k, DRs.mono e hb ds _ t⟩
  | .obj C ns ds, v, h => by
    unfold DR at *
    obtain ⟨a, dx, xs, r, s, u, t⟩ := h
    exact ⟨a, dx, xs, r, e _ _ s, u, DRs.mono e hb ds _ t⟩
  | .box, v, h => by
    unfold DR at *
    obtain ⟨b, r, s⟩ := h
    exact ⟨b, r, hb.bx b s⟩
  | .raw w, v, h => by unfold DR at *; exact h
  | .scr K ns, v, h => by
    unfold DR at *
    obtain ⟨a, r, s⟩ := h
    exact ⟨a, r, e.l s⟩
  | .cel i, v, h => by
    unfold DR at *
    obtain ⟨a, r, s⟩ := h
    exact ⟨a, r, hb.get s⟩
  | .exn a C dx ns ds, v, h => by
    unfold DR at *
    obtain ⟨fs, r, s, u, t⟩ := h
    exact ⟨fs, r, e _ _ s, u, DRs.mono e hb ds _ t⟩
  | .exd C m ns ds, v, h => by
    unfold DR at *
    obtain ⟨a, o, od, t, fs, r, s, x, hm, hd, h0, u, tt⟩ := h
    exact ⟨a, o, od, t, fs, r, e _ _ s, x, fun y z => by obtain ⟨b, e1, e2⟩ := hm y z; exact ⟨b, e1, e _ _ e2⟩, fun dx z => by obtain ⟨q, e1, e2⟩ := hd dx z; exact ⟨q, e _ _ e1, e2⟩, h0, u, DRs.mono e hb ds _ tt⟩
theorem DRs.mono (e : Ex G G') (hb : B.Le B') : ∀ (ds : List D) (vs : List V), DRs B G ds vs → DRs B' G' ds vs
  | [], vs, h => by unfold DRs at *; exact h
  | d :: ds, vs, h => by
    unfold DRs at *
    obtain ⟨v, ws, r, s, t⟩ := h
    exact ⟨v, ws, r, DR.mono e hb d v s, DRs.mono e hb ds ws t⟩
end
theorem DRs.nil : DRs B G [] [] := by unfold DRs; rfl
theorem DRs.cons {d : D} {v : V} {ds : List D} {vs : List V} (h : DR B G d v) (t : DRs B G ds vs) : DRs B G (d :: ds) (v :: vs) := by unfold DRs; exact ⟨v, vs, rfl, h, t⟩
theorem DRs.nil_inv {vs : List V} (h : DRs B G [] vs) : vs = [] := by unfold DRs at h; exact h
theorem DRs.cons_inv {d : D} {ds : List D} {vs : List V} (h : DRs B G (d :: ds) vs) : ∃ v ws, vs = v :: ws ∧ DR B G d v ∧ DRs B G ds ws := by unfold DRs at h; exact h
theorem DRs.length : ∀ {ds : List D} {vs : List V}, DRs B G ds vs → ds.length = vs.length
  | [], vs, h => by rw [h.nil_inv]; rfl
  | d :: ds, vs, h => by
    obtain ⟨v, ws, rfl, _, t⟩ := h.cons_inv
    rw [List.length_cons, List.length_cons, DRs.length t]
theorem DRs.get : ∀ {ds : List D} {vs : List V} {i : Nat} {d : D}, DRs B G ds vs → ds[i]? = some d → ∃ v, vs[i]? = some v ∧ DR B G d v
  | [], vs, i, d, h, e => by simp at e
  | d :: ds, vs, 0, d', h, e => by
    obtain ⟨v, ws, rfl, r, t⟩ := h.cons_inv
    simp at e; subst e
    exact ⟨v, by simp, r⟩
  | d :: ds, vs, i + 1, d', h, e => by
    obtain ⟨v, ws, rfl, r, t⟩ := h.cons_inv
    simp at e
    obtain ⟨u, e1, r1⟩ := DRs.get t e
    exact ⟨u, by simpa using e1, r1⟩
theorem DRs.append : ∀ {ds es : List D} {vs ws : List V}, DRs B G ds vs → DRs B G es ws → DRs B G (ds ++ es) (vs ++ ws)
  | [], es, vs, ws, h, t => by rw [h.nil_inv]; exact t
  | d :: ds, es, vs, ws, h, t => by
    obtain ⟨v, us, rfl, r, q⟩ := h.cons_inv
    exact DRs.cons r (DRs.append q t)
theorem DRs.take : ∀ {ds : List D} {vs : List V} (n : Nat), DRs B G ds vs → DRs B G (ds.take n) (vs.take n)
  | ds, vs, 0, h => by simp only [List.take_zero]; exact DRs.nil
  | [], vs, n + 1, h => by rw [h.nil_inv]; simp only [List.take_nil]; exact DRs.nil
  | d :: ds, vs, n + 1, h => by
    obtain ⟨v, ws, rfl, r, t⟩ := h.cons_inv
    exact DRs.cons r (DRs.take n t)
theorem DRs.drop : ∀ {ds : List D} {vs : List V} (n : Nat), DRs B G ds vs → DRs B G (ds.drop n) (vs.drop n)
  | ds, vs, 0, h => h
  | [], vs, n + 1, h => by rw [h.nil_inv]; simp only [List.drop_nil]; exact DRs.nil
  | d :: ds, vs, n + 1, h => by
    obtain ⟨v, ws, rfl, r, t⟩ := h.cons_inv
    exact DRs.drop n t
theorem DRs.reverse : ∀ {ds : List D} {vs : List V}, DRs B G ds vs → DRs B G ds.reverse vs.reverse
  | [], vs, h => by rw [h.nil_inv]; exact DRs.nil
  | d :: ds, vs, h => by
    obtain ⟨v, ws, rfl, r, t⟩ := h.cons_inv
    rw [List.reverse_cons, List.reverse_cons]
    exact (DRs.reverse t).append (DRs.cons r DRs.nil)
theorem DRs.set : ∀ {ds : List D} {vs : List V} (i : Nat) {d : D} {v : V}, DR B G d v → DRs B G ds vs → DRs B G (ds.set i d) (vs.set i v)
  | [], vs, i, d, v, r, h => by rw [h.nil_inv]; exact DRs.nil
  | e :: ds, vs, 0, d, v, r, h => by
    obtain ⟨u, ws, rfl, _, t⟩ := h.cons_inv
    exact DRs.cons r t
  | e :: ds, vs, i + 1, d, v, r, h => by
    obtain ⟨u, ws, rfl, q, t⟩ := h.cons_inv
    exact DRs.cons q (DRs.set i r t)
end
end L3
set_option Elab.async false
set_option linter.all false
set_option maxRecDepth 100000
set_option maxHeartbeats 1000000
namespace L3
open PySem PySem.Spec PyProof.Rows L2
/-- what a name of a def's own may hold and change -/
inductive O where
  | lst (ds : List D)
  | dk (ks : List Key) (ds : List D)
  | dt (ks : List (List Key)) (ds : List D)
  | ins (C y : Addr) (ns : List Str) (ds : List D)
def O.toD : O → D
  | .lst ds => .lst ds
  | .dk ks ds => .dk ks ds
  | .dt ks ds => .dt ks ds
  | .ins C _ ns ds => .obj C ns ds
/-- the object at l is this -/
def OR (B : Sh) (G : Hp) (l : Addr) : O → HO → Prop
  | .lst ds, ho => ∃ xs, ho = .lst xs ∧ DRs B G ds xs
  | .dk ks ds, ho => ∃ kvs, ho = .dK kvs ∧ kvs.map (·.1) = ks ∧ ks.all kOk = true ∧ DRs B G ds (kvs.map (·.2))
  | .dt ks ds, ho => ∃ kvs, ho = .dT kvs ∧ kvs.map (·.1) = ks ∧ ks.all kOkT = true ∧ DRs B G ds (kvs.map (·.2))
  | .ins C y ns ds, ho => y = l ∧ ∃ dx fs, ho = .ins C dx fs ∧ fs.map (·.1) = ns ∧ DRs B G ds (fs.map (·.2))
theorem OR.mono {B B' : Sh} {G G' : Hp} {l : Addr} (e : Ex G G') (hb : B.Le B') : ∀ {o : O} {ho : HO}, OR B G l o ho → OR B' G' l o ho
  | .lst ds, ho, ⟨xs, r, t⟩ => ⟨xs, r, DRs.mono e hb _ _ t⟩
  | .dk ks ds, ho, ⟨xs, r, u, k, t⟩ => ⟨xs, r, u, k, DRs.mono e hb _ _ t⟩
  | .dt ks ds, ho, ⟨xs, r, u, k, t⟩ => ⟨xs, r, u, k, DRs.mono e hb _ _ t⟩
  | .ins C y ns ds, ho, ⟨ey, dx, xs, r, u, t⟩ => ⟨ey, dx, xs, r, u, DRs.mono e hb _ _ t⟩
theorem OR.noTup {B : Sh} {G : Hp} {l : Addr} {ho : HO} : ∀ {o : O}, OR B G l o ho → ∀ xs, ho ≠ .tup xs
  | .lst ds, ⟨xs, r, t⟩, ys => by subst r; intro z; cases z
  | .dk ks ds, ⟨xs, r, u, t⟩, ys => by subst r; intro z; cases z
  | .dt ks ds, ⟨xs, r, u, t⟩, ys => by subst r; intro z; cases z
  | .ins C y ns ds, ⟨ey, dx, xs, r, u, t⟩, ys => by subst r; intro z; cases z
theorem OR.mut {B : Sh} {G : Hp} {l : Addr} {ho : HO} : ∀ {o : O}, OR B G l o ho → Mut (some ho)
  | .lst ds, ⟨xs, r, t⟩ => by subst r; trivial
  | .dk ks ds, ⟨xs, r, u, t⟩ => by subst r; trivial
  | .dt ks ds, ⟨xs, r, u, t⟩ => by subst r; trivial
  | .ins C y ns ds, ⟨ey, dx, xs, r, u, t⟩ => by subst r; trivial
/-- what changes: how many draws; the cells -/
structure Mem where
  n : Nat
  cs : List (Option O)
/-- the world: what is public and never changes; the boxes; how many draws so far -/
structure Wd where
  G : Hp
  B : Sh
  n : Mem
def BoxOk (a j k : Int) (n : Nat) : Prop := 0 ≤ a ∧ 0 ≤ j ∧ j < 2147483648 ∧ 0 ≤ k ∧ k ≤ n
structure WOk (w : Wd) (H : Hp) : Prop where
  gh : Ex w.G H
  box : ∀ b, w.B.bx b → w.G b = none ∧ ∃ a j k, H b = some (.lst [.int a, .int j, .int k]) ∧ BoxOk a j k w.n.n
  cel : ∀ (i : Nat) (a : Addr), w.B.ad[i]? = some a → ¬ w.B.bx a ∧ (∃ ho, H a = some ho) ∧ ∀ o, w.n.cs[i]? = some (some o) → w.G a = none ∧ ∃ ho, H a = some ho ∧ OR w.B w.G a o ho
  cnd : w.B.ad.Nodup
  cln : w.B.ad.length = w.n.cs.length
  tp : ∀ a xs, H a = some (.tup xs) → w.G a = some (.tup xs)
/-- from one state to a later one -/
structure Step (w : Wd) (H : Hp) (w' : Wd) (H' : Hp) : Prop where
  ok : WOk w' H'
  gg : Ex w.G w'.G
  bb : w.B.Le w'.B
  hh : ∀ a o, H a = some o → ¬ w.B a → H' a = some o
  newG : ∀ a, H a ≠ none → ¬ w.B a → w.G a = none → w'.G a = none
  newB : ∀ a, H a ≠ none → ¬ w.B a → ¬ w'.B a
  nn : w.n.n ≤ w'.n.n
section
variable {w w1 w2 : Wd} {H H1 H2 : Hp}
theorem WOk.refl (h : WOk w H) : Step w H w H := ⟨h, Ex.refl _, .refl, fun _ _ e _ => e, fun _ _ _ e => e, fun _ _ e => e, Nat.le_refl _⟩
theorem Step.there (s : Step w H w1 H1) {a : Addr} (h : H a ≠ none) : H1 a ≠ none := by
  intro z
  by_cases hb : w.B a
  · rcases hb with hb | hb
    · obtain ⟨_, x, j, k, e, _⟩ := s.ok.box a (s.bb.bx a hb)
      rw [z] at e; cases e
    · obtain ⟨i, hi⟩ := List.mem_iff_getElem?.mp hb
      obtain ⟨_, ⟨ho, e⟩, _⟩ := s.ok.cel i a (s.bb.get hi)
      rw [z] at e; cases e
  · cases q : H a with
    | none => exact h q
    | some o => rw [s.hh a o q hb] at z; cases z
/-- what is not there is not shared -/
theorem WOk.noB (h : WOk w H) {p : Addr} (hp : H p = none) : ¬ w.B p := fun z => by
  rcases z with z | z
  · obtain ⟨_, _, _, _, e, _⟩ := h.box p z
    rw [hp] at e; cases e
  · obtain ⟨i, hi⟩ := List.mem_iff_getElem?.mp z
    obtain ⟨_, ⟨ho, e⟩, _⟩ := h.cel i p hi
    rw [hp] at e; cases e
theorem Step.trans (s : Step w H w1 H1) (t : Step w1 H1 w2 H2) : Step w H w2 H2 where
  ok := t.ok
  gg := s.gg.trans t.gg
  bb := s.bb.trans t.bb
  hh := fun a o e nb => t.hh a o (s.hh a o e nb) (s.newB a (by rw [e]; simp) nb)
  newG := fun a h nb e => t.newG a (s.there h) (s.newB a h nb) (s.newG a h nb e)
  newB := fun a h e => t.newB a (s.there h) (s.newB a h e)
  nn := Nat.le_trans s.nn t.nn
theorem Step.fresh (s : Step w H w1 H1) {a : Addr} (h : H1 a = none) : H a = none := by
  cases q : H a with
  | none => rfl
  | some o => exact absurd h (s.there (by rw [q]; simp))
theorem WOk.pub (h : WOk w H) {p : Addr} {o : HO} (hp : H p = none) : Step w H { w with G := upd w.G p o } (upd H p o) := by
  have gp : w.G p = none := h.gh.none hp
  refine ⟨⟨fun a u e => ?_, fun b hb => ?_, fun i b hb => ?_, h.cnd, h.cln, fun a xs e => ?_⟩, Ex.new gp, .refl, fun a u e _ => ?_, fun a ha _ e => ?_, fun _ _ e => e, Nat.le_refl _⟩
  · have e : upd w.G p o a = some u := e
    by_cases q : a = p
    · rw [q, upd_same] at e
      rw [q, upd_same]; exact e
    · rw [upd_ne q] at e
      rw [upd_ne q]; exact h.gh a u e
  · obtain ⟨g, x, j, k, e, c⟩ := h.box b hb
    have ne : b ≠ p := ne_of_none e hp
    exact ⟨by show upd w.G p o b = none; rw [upd_ne ne]; exact g, x, j, k, by rw [upd_ne ne]; exact e, c⟩
  · obtain ⟨nb, ⟨h1, e1⟩, k⟩ := h.cel i b hb
    have ne : b ≠ p := ne_of_none e1 hp
    exact ⟨nb, ⟨h1, by rw [upd_ne ne]; exact e1⟩, fun o' eo => let ⟨g, ho, e2, r⟩ := k o' eo; ⟨by show upd w.G p o b = none; rw [upd_ne ne]; exact g, ho, by rw [upd_ne ne]; exact e2, r.mono (Ex.new gp) .refl⟩⟩
  · show upd w.G p o a = some (.tup xs)
    by_cases q : a = p
    · rw [q, upd_same] at e
      rw [q, upd_same]; exact e
    · rw [upd_ne q] at e
      rw [upd_ne q]; exact h.tp a xs e
  · rw [upd_ne (ne_of_none e hp)]; exact e
  · have ne : a ≠ p := fun z => ha (by rw [z]; exact hp)
    show upd w.G p o a = none
    rw [upd_ne ne]; exact e
/-- something private is laid -/
theorem WOk.priv (h : WOk w H) {p : Addr} {o : HO} (hp : H p = none) (ho : ∀ xs, o ≠ .tup xs) : Step w H w (upd H p o) := by
  refine ⟨⟨fun a u e => ?_, fun b hb => ?_, fun i b hb => ?_, h.cnd, h.cln, fun a xs e => ?_⟩, Ex.refl _, .refl, fun a u e _ => ?_, fun _ _ _ e => e, fun _ _ e => e, Nat.le_refl _⟩
  · have e' := h.gh a u e
    rw [upd_ne (ne_of_none e' hp)]; exact e'
  · obtain ⟨g, x, j, k, e, c⟩ := h.box b hb
    exact ⟨g, x, j, k, by rw [upd_ne (ne_of_none e hp)]; exact e, c⟩
  · obtain ⟨nb, ⟨h1, e1⟩, k⟩ := h.cel i b hb
    have ne : b ≠ p := ne_of_none e1 hp
    exact ⟨nb, ⟨h1, by rw [upd_ne ne]; exact e1⟩, fun o' eo => let ⟨g, ho, e2, r⟩ := k o' eo; ⟨g, ho, by rw [upd_ne ne]; exact e2, r⟩⟩
  · by_cases q : a = p
    · rw [q, upd_same] at e
      exact absurd (Option.some.inj e) (ho xs)
    · rw [upd_ne q] at e
      exact h.tp a xs e
  · rw [upd_ne (ne_of_none e hp)]; exact e
theorem Step.dr (s : Step w H w1 H1) {d : D} {v : V} (h : DR w.B w.G d v) : DR w1.B w1.G d v := DR.mono s.gg s.bb d v h
theorem Step.drs (s : Step w H w1 H1) {d : List D} {v : List V} (h : DRs w.B w.G d v) : DRs w1.B w1.G d v := DRs.mono s.gg s.bb d v h
end
/-- how it stands when it is public: dicts are locked -/
def O.pub (od : Obj) (ho : HO) : O → HO
  | .dk _ _ => .frz od ho
  | .dt _ _ => .frz od ho
  | _ => ho
def O.locks : O → Bool
  | .dk _ _ => true
  | .dt _ _ => true
  | _ => false
theorem O.pub_no {od : Obj} {ho : HO} : ∀ {o : O}, o.locks = false → o.pub od ho = ho
  | .lst _, _ => rfl
  | .ins _ _ _ _, _ => rfl
theorem O.pub_yes {od : Obj} {ho : HO} : ∀ {o : O}, o.locks = true → o.pub od ho = .frz od ho
  | .dk _ _, _ => rfl
  | .dt _ _, _ => rfl
theorem OR.pubTup {B : Sh} {G : Hp} {l : Addr} {od : Obj} {ho : HO} {o : O} (h : OR B G l o ho) (xs : List V) : o.pub od ho ≠ .tup xs := by
  cases q : o.locks with
  | true => rw [O.pub_yes q]; intro z; cases z
  | false => rw [O.pub_no q]; exact h.noTup xs
theorem OR.toD {B : Sh} {G : Hp} {l : Addr} {od : Obj} {ho : HO} : ∀ {o : O}, G l = some (o.pub od ho) → OR B G l o ho → DR B G o.toD (.ref l)
  | .lst ds, hl, ⟨xs, r, t⟩ => by subst r; unfold O.toD DR; exact ⟨l, xs, rfl, hl, t⟩
  | .dk ks ds, hl, ⟨xs, r, u, k, t⟩ => by subst r; unfold O.toD DR; exact ⟨l, xs, od, rfl, hl, u, k, t⟩
  | .dt ks ds, hl, ⟨xs, r, u, k, t⟩ => by subst r; unfold O.toD DR; exact ⟨l, xs, od, rfl, hl, u, k, t⟩
  | .ins C y ns ds, hl, ⟨ey, dx, xs, r, u, t⟩ => by subst r; unfold O.toD DR; exact ⟨l, dx, xs, rfl, hl, u, t⟩
inductive S3 where
  | dat (d : D)
  | own (o : O)
abbrev St3 := List (Option S3)
abbrev St2 := List (Option V)
/-- an object of one's own at l -/
structure Own (H0 : Hp) (w : Wd) (H : Hp) (o : O) (l : Addr) : Prop where
  g : w.G l = none
  b : ¬ w.B l
  new : H0 l = none
  at_ : ∃ ho, H l = some ho ∧ OR w.B w.G l o ho
theorem Own.step {H0 : Hp} {w w1 : Wd} {H H1 : Hp} {o : O} {l : Addr} (h : Own H0 w H o l) (s : Step w H w1 H1) : Own H0 w1 H1 o l := by
  obtain ⟨ho, e, r⟩ := h.at_
  have ne : H l ≠ none := by rw [e]; simp
  exact ⟨s.newG l ne h.b h.g, s.newB l ne h.b, h.new, ho, s.hh l ho e h.b, r.mono s.gg s.bb⟩
/-- a later world -/
structure Later (w w' : Wd) : Prop where
  g : Ex w.G w'.G
  b : w.B.Le w'.B
  n : w.n.n ≤ w'.n.n
theorem Later.refl {w : Wd} : Later w w := ⟨Ex.refl _, .refl, Nat.le_refl _⟩
theorem Later.trans {w w1 w2 : Wd} (a : Later w w1) (b : Later w1 w2) : Later w w2 := ⟨a.g.trans b.g, a.b.trans b.b, Nat.le_trans a.n b.n⟩
theorem Step.later {w w1 : Wd} {H H1 : Hp} (s : Step w H w1 H1) : Later w w1 := ⟨s.gg, s.bb, s.nn⟩
/-- the start of a def; a world of which we are later -/
structure W0 where
  s : Wd
  l : Wd
/-- the names' values -/
structure SR (w0 : W0) (H0 : Hp) (w : Wd) (H : Hp) (σ3 : St3) (σ : St2) : Prop where
  st : Step w0.s H0 w H
  lt : Later w0.l w
  len : σ3.length = σ.length
  dat : ∀ (i : Nat) (d : D), σ3[i]? = some (some (S3.dat d)) → ∃ v, σ[i]? = some (some v) ∧ DR w.B w.G d v
  own : ∀ (i : Nat) (o : O), σ3[i]? = some (some (S3.own o)) → ∃ l, σ[i]? = some (some (V.ref l)) ∧ Own H0 w H o l
  inj : ∀ (i j : Nat) (o o' : O) (l : Addr), σ3[i]? = some (some (S3.own o)) → σ3[j]? = some (some (S3.own o')) → σ[i]? = some (some (V.ref l)) → σ[j]? = some (some (V.ref l)) → i = j
section
variable {w0 : W0} {w w1 : Wd} {H0 H H1 : Hp} {σ3 : St3} {σ : St2}
theorem SR.ok (h : SR w0 H0 w H σ3 σ) : WOk w H := h.st.ok
theorem SR.step (h : SR w0 H0 w H σ3 σ) (s : Step w H w1 H1) : SR w0 H0 w1 H1 σ3 σ where
  st := h.st.trans s
  lt := h.lt.trans s.later
  len := h.len
  dat := fun i d e => let ⟨v, e1, r⟩ := h.dat i d e; ⟨v, e1, s.dr r⟩
  own := fun i o e => let ⟨l, e1, r⟩ := h.own i o e; ⟨l, e1, r.step s⟩
  inj := h.inj
theorem SR.setD (h : SR w0 H0 w H σ3 σ) (i : Nat) {d : D} {v : V} (r : DR w.B w.G d v) : SR w0 H0 w H (σ3.set i (some (S3.dat d))) (σ.set i (some v)) where
  st := h.st
  lt := h.lt
  len := by rw [List.length_set, List.length_set]; exact h.len
  dat := fun j d' e => by
    by_cases q : i = j
    · subst q
      have hi : i < σ3.length := by
        rcases Nat.lt_or_ge i σ3.length with z | z
        · exact z
        · rw [List.getElem?_set_self', List.getElem?_eq_none_iff.mpr z] at e; cases e
      rw [List.getElem?_set_self hi] at e
      cases e
      exact ⟨v, List.getElem?_set_self (by rw [← h.len]; exact hi), r⟩
    · rw [List.getElem?_set_ne q] at e
      rw [List.getElem?_set_ne q]
      exact h.dat j d' e
  own := fun j o e => by
    by_cases q : i = j
    · subst q
      have hi : i < σ3.length := by
        rcases Nat.lt_or_ge i σ3.length with z | z
        · exact z
        · rw [List.getElem?_set_self', List.getElem?_eq_none_iff.mpr z] at e; cases e
      rw [List.getElem?_set_self hi] at e
      cases e
    · rw [List.getElem?_set_ne q] at e
      rw [List.getElem?_set_ne q]
      exact h.own j o e
  inj := fun a b o o' l e1 e2 e3 e4 => by
    have key : ∀ {a : Nat} {o : O}, (σ3.set i (some (S3.dat d)))[a]? = some (some (S3.own o)) → i ≠ a := fun {a o} e q => by
      subst q
      have hi : i < σ3.length := by
        rcases Nat.lt_or_ge i σ3.length with z | z
        · exact z
        · rw [List.getElem?_set_self', List.getElem?_eq_none_iff.mpr z] at e; cases e
      rw [List.getElem?_set_self hi] at e
      cases e
    have n1 := key e1
    have n2 := key e2
    rw [List.getElem?_set_ne n1] at e1 e3
    rw [List.getElem?_set_ne n2] at e2 e4
    exact h.inj a b o o' l e1 e2 e3 e4
theorem lt_of_set {α : Type} {l : List α} {i : Nat} {x y : α} (e : (l.set i x)[i]? = some y) : i < l.length := by
  rcases Nat.lt_or_ge i l.length with z | z
  · exact z
  · rw [List.getElem?_set_self', List.getElem?_eq_none_iff.mpr z] at e; cases e
/-- a name that now holds an object of its own at l, new or its own before -/
theorem SR.setO (h : SR w0 H0 w H σ3 σ) (i : Nat) {o : O} {l : Addr} (r : Own H0 w H o l) (hn : ∀ (j : Nat) (o' : O), j ≠ i → σ3[j]? = some (some (S3.own o')) → σ[j]? ≠ some (some (V.ref l))) : SR w0 H0 w H (σ3.set i (some (S3.own o))) (σ.set i (some (V.ref l))) where
  st := h.st
  lt := h.lt
  len := by rw [List.length_set, List.length_set]; exact h.len
  dat := fun j d' e => by
    by_cases q : i = j
    · subst q
      have hi := lt_of_set e
      rw [List.getElem?_set_self hi] at e
      cases e
    · rw [List.getElem?_set_ne q] at e
      rw [List.getElem?_set_ne q]
      exact h.dat j d' e
  own := fun j o' e => by
    by_cases q : i = j
    · subst q
      have hi := lt_of_set e
      rw [List.getElem?_set_self hi] at e
      cases e
      exact ⟨l, List.getElem?_set_self (by rw [← h.len]; exact hi), r⟩
    · rw [List.getElem?_set_ne q] at e
      rw [List.getElem?_set_ne q]
      exact h.own j o' e
  inj := fun a b o1 o2 m e1 e2 e3 e4 => by
    by_cases qa : i = a
    · subst qa
      by_cases qb : i = b
      · exact qb
      · have hi := lt_of_set e1
        rw [List.getElem?_set_self (by rw [← h.len]; exact hi)] at e3
        cases e3
        rw [List.getElem?_set_ne qb] at e2 e4
        exact absurd e4 (hn b o2 (fun z => qb z.symm) e2)
    · rw [List.getElem?_set_ne qa] at e1 e3
      by_cases qb : i = b
      · subst qb
        have hi := lt_of_set e2
        rw [List.getElem?_set_self (by rw [← h.len]; exact hi)] at e4
        cases e4
        exact absurd e3 (hn a o1 (fun z => qa z.symm) e1)
      · rw [List.getElem?_set_ne qb] at e2 e4
        exact h.inj a b o1 o2 m e1 e2 e3 e4
/-- the object of name i is changed to ho -/
theorem SR.mut (h : SR w0 H0 w H σ3 σ) {i : Nat} {o o' : O} {l : Addr} {ho : HO} (e : σ3[i]? = some (some (S3.own o))) (el : σ[i]? = some (some (V.ref l))) (r : OR w.B w.G l o' ho) :
    SR w0 H0 w (upd H l ho) (σ3.set i (some (S3.own o'))) σ := by
  obtain ⟨l', el', ow⟩ := h.own i o e
  rw [el] at el'
  cases el'
  obtain ⟨ho0, e0, r0⟩ := ow.at_
  have ok' : WOk w (upd H l ho) := ⟨fun a u q => by
      have ne : a ≠ l := fun z => by rw [z, ow.g] at q; cases q
      rw [upd_ne ne]; exact h.ok.gh a u q, fun b hb => by
      obtain ⟨g, x, j, k, q, c⟩ := h.ok.box b hb
      have ne : b ≠ l := fun z => ow.b (by rw [← z]; exact .inl hb)
      exact ⟨g, x, j, k, by rw [upd_ne ne]; exact q, c⟩, fun i b hb => by
      obtain ⟨nb, ⟨h1, e1⟩, k⟩ := h.ok.cel i b hb
      have ne : b ≠ l := fun z => ow.b (by rw [← z]; exact .inr (List.mem_of_getElem? hb))
      exact ⟨nb, ⟨h1, by rw [upd_ne ne]; exact e1⟩, fun o1 eo => let ⟨g, ho1, e2, r1⟩ := k o1 eo; ⟨g, ho1, by rw [upd_ne ne]; exact e2, r1⟩⟩, h.ok.cnd, h.ok.cln, fun a xs q => by
      by_cases z : a = l
      · rw [z, upd_same] at q
        exact absurd (Option.some.inj q) (r.noTup xs)
      · rw [upd_ne z] at q
        exact h.ok.tp a xs q⟩
  have st' : Step w0.s H0 w (upd H l ho) := ⟨ok', h.st.gg, h.st.bb, fun a u q nb => by
      have ne : a ≠ l := fun z => by rw [z, ow.new] at q; cases q
      rw [upd_ne ne]; exact h.st.hh a u q nb, h.st.newG, h.st.newB, h.st.nn⟩
  have eσ : σ.set i (some (V.ref l)) = σ := by
    apply List.ext_getElem?
    intro j
    by_cases q : i = j
    · subst q
      rw [List.getElem?_set_self (List.getElem?_eq_some_iff.mp el).1, el]
    · rw [List.getElem?_set_ne q]
  have base : SR w0 H0 w (upd H l ho) (σ3.set i (some (S3.own o'))) (σ.set i (some (V.ref l))) := by
    refine ⟨st', h.lt, by rw [List.length_set, List.length_set]; exact h.len, fun j d' e' => ?_, fun j o1 e' => ?_, fun a b o1 o2 m e1 e2 e3 e4 => ?_⟩
    · by_cases q : i = j
      · subst q
        rw [List.getElem?_set_self (lt_of_set e')] at e'
        cases e'
      · rw [List.getElem?_set_ne q] at e'
        rw [List.getElem?_set_ne q]
        exact h.dat j d' e'
    · by_cases q : i = j
      · subst q
        have hi := lt_of_set e'
        rw [List.getElem?_set_self hi] at e'
        cases e'
        exact ⟨l, List.getElem?_set_self (by rw [← h.len]; exact hi), ow.g, ow.b, ow.new, ho, upd_same, r⟩
      · rw [List.getElem?_set_ne q] at e'
        rw [List.getElem?_set_ne q]
        obtain ⟨l1, el1, ow1⟩ := h.own j o1 e'
        have ne : l1 ≠ l := fun z => by rw [z] at el1; exact q (h.inj i j o o1 l e e' el el1)
        obtain ⟨ho1, e1, r1⟩ := ow1.at_
        exact ⟨l1, el1, ow1.g, ow1.b, ow1.new, ho1, by rw [upd_ne ne]; exact e1, r1⟩
    · have key : ∀ {a : Nat} {o1 : O}, (σ3.set i (some (S3.own o')))[a]? = some (some (S3.own o1)) → ∃ o2, σ3[a]? = some (some (S3.own o2)) := fun {a o1} e' => by
        by_cases q : i = a
        · subst q; exact ⟨o, e⟩
        · rw [List.getElem?_set_ne q] at e'; exact ⟨o1, e'⟩
      obtain ⟨p1, f1⟩ := key e1
      obtain ⟨p2, f2⟩ := key e2
      rw [eσ] at e3 e4
      exact h.inj a b p1 p2 m f1 f2 e3 e4
  rw [eσ] at base
  exact base
theorem SR.rebase (h : SR w0 H0 w H σ3 σ) : SR ⟨w0.s, w⟩ H0 w H σ3 σ := ⟨h.st, Later.refl, h.len, h.dat, h.own, h.inj⟩
theorem SR.unbase {l : Wd} (h : SR ⟨w0.s, l⟩ H0 w H σ3 σ) (b : Later w0.l l) : SR w0 H0 w H σ3 σ := ⟨h.st, b.trans h.lt, h.len, h.dat, h.own, h.inj⟩
end
end L3
set_option Elab.async false
set_option linter.all false
set_option maxRecDepth 100000
set_option maxHeartbeats 2000000
namespace L2
open PySem PySem.Spec PyProof.Rows
structure FnG (P : Program) (w : World) (K : PySem.W.Frag) (mg : Str → Option Value) (base : Heap) (CX : CXT) (k : Nat) (f : Addr) (fd : FuncData) (ps : List Str) (sp : Sp) : Prop where
  len : ∀ vs H Q E, sp vs H Q E → vs.length = ps.length
  run : ∀ (A : Around) (outer : List Env) (s : Shared) (H : Hp) (args : Args) (us : List Value) (vs : List V) (Q : VK) (E : XK), Room k A → A.guards = some [] → Env0 P w K mg base A outer s H → BindsTo s fd args (ps.zip us) → Vals vs us → sp vs H Q E →
    codeAny (model P w) A (.call (.ref f) args) (CR CX outer P w H s Q E) s
theorem FnG.of {P : Program} {w : World} {K : PySem.W.Frag} {mg : Str → Option Value} {base : Heap} {CX : CXT} {k : Nat} {f : Addr} {fd : FuncData} {ps : List Str} {sp : Sp} (F : FnOk P w K mg base CX k f fd ps sp) : FnG P w K mg base CX k f fd ps sp :=
  ⟨F.len, fun A outer s H args us vs Q E hr _ => F.run A outer s H args us vs Q E hr⟩
theorem FnG.mono {P : Program} {w : World} {K : PySem.W.Frag} {mg : Str → Option Value} {base : Heap} {CX : CXT} {j k : Nat} {f : Addr} {fd : FuncData} {ps : List Str} {sp : Sp} (F : FnG P w K mg base CX j f fd ps sp) (h : j ≤ k) :
    FnG P w K mg base CX k f fd ps sp := ⟨F.len, fun A outer s H args us vs Q E hr => F.run A outer s H args us vs Q E (hr.mono h)⟩
theorem FnG.imp {P : Program} {w : World} {K : PySem.W.Frag} {mg : Str → Option Value} {base : Heap} {CX : CXT} {k : Nat} {f : Addr} {fd : FuncData} {ps : List Str} {sp sp' : Sp} (F : FnG P w K mg base CX k f fd ps sp)
    (h : ∀ vs H Q E, sp' vs H Q E → sp vs H Q E) : FnG P w K mg base CX k f fd ps sp' :=
  ⟨fun vs H Q E q => F.len vs H Q E (h _ _ _ _ q), fun A outer s H args us vs Q E hr hg he hb hv hs => F.run A outer s H args us vs Q E hr hg he hb hv (h _ _ _ _ hs)⟩
section
variable {X : Cx} {CX : CXT} {k n : Nat} {f C : Addr} {fd : FuncData} {ps ks : List Str} {sp : Sp} {dvs : List V} {ds : List Value} {E : St → XK} {x m : Str} {p pos apos : Pos} {e o : Expr} {es : List Expr} {kws : List Keyword} {ta : TE} {t tk : TA} {g : List Value → List Value → List Value} {gV : List V → List V → List V}
theorem run_fnG {pins : List (Addr × Obj)} {σ : St} {H : Hp} {s : Shared} {Q : VK} {us : List Value} {vs : List V} (F : FnG X.prog X.w X.K X.mg X.base CX k f fd ps sp) (hr : Room k X.A) (hgd : X.A.guards = some []) (hb : Binds X.K fd ps ds) (hd : Vals dvs ds) (hx : ∀ σ, PassesAt CX X σ (E σ))
    (I : Inv X pins σ H s) (r : Vals vs us) (h : sp (vs ++ dvs) H Q (E σ)) : wpAny (model X.prog X.w) X.A (call (.ref f) us) (EP X pins σ Q) X.xe s := by
  have r2 : Vals (vs ++ dvs) (us ++ ds) := r.append hd
  have hl : (us ++ ds).length = ps.length := by rw [← r2.length]; exact F.len _ _ _ _ h
  refine wpAny_call (codeAny_mono (F.run X.A X.stack s H ⟨us, []⟩ (us ++ ds) (vs ++ dvs) Q (E σ) hr hgd I.env0 (hb s us I.kIn hl) r2 h) fun r s' hq => ?_)
  cases r with
  | error e => exact hx σ pins H s e s' I hq
  | ok fl =>
    cases fl with
    | ret u => exact I.after hq
    | next => exact False.elim hq
    | brk => exact False.elim hq
    | cont => exact False.elim hq
theorem pe_callG (F : FnG X.prog X.w X.K X.mg X.base CX k f fd ps sp) (hr : Room k X.A) (hgd : X.A.guards = some []) (hg : Gl X x) (hm : X.mg x = some (.ref f)) (hk : PySem.W.keepIn X.K (.ref f) = true) (hb : Binds X.K fd ps ds) (hd : Vals dvs ds) (hx : ∀ σ, PassesAt CX X σ (E σ))
    (ha : PA X (e :: es) t) (hdb : (x == ("__debug__" : Str)) = false := by decide) (he : starEach (e :: es) X.env = (false, eval e X.env) :: starEach es X.env := by rfl) (hpl : (backTo pos (starEach es X.env)).any (·.1) = false := by rfl) :
    PE X (.Call (.Name x p) (e :: es) [] pos) (fun σ H Q => tCall sp dvs (E σ) t σ H Q) := by
  refine ⟨fun pins s σ H Q I h => ?_⟩
  refine wpAny_Call_Name_kw (ld_glob I hg hm ?_ hdb)
  refine PySem.W.callWith_K (h₀ := X.base) I.ok.mod.kin hk (thn (ha.run pos pins s σ H _ I h) fun us s1 ⟨vs, H1, I1, r, q⟩ => ⟨I1.kIn, ?_⟩) he hpl
  exact run_fnG F hr hgd hb hd hx I1 r q
end
theorem fn_ofG {CX : CXT} {P : Program} {w : World} {K : PySem.W.Frag} {mg : Str → Option Value} {base : Heap} {k : Nat} {f : Addr} {name qual : Str} {params : Arguments} {body : List Stmt} {scope : Scope} {dV kV doc pm cdv ct oc : Value} {an od : Option Addr}
    {osl : Array (Option Value)} {N ps : List Str} {sp : Sp} (lk : K.lookup f = some ⟨oc, od, .func (PySem.W.fnOf name qual params body scope dV kV doc pm an cdv ct), osl⟩) (hcd : PySem.W.codeIn K cdv qual = true) (S : FnScope N ps scope)
    (len : ∀ vs H Q E, sp vs H Q E → vs.length = ps.length)
    (hbody : ∀ (A : Around) (outer : List Env) (s : Shared) (H : Hp) (vs : List V) (Q : VK) (E : XK), Room k (A.deeper (envOfC qual scope s.heap.objs.size f cdv)) → A.guards = some [] → sp vs H Q E →
      ∃ t, PSs (cxOf CX P w K mg base N qual scope f cdv A outer s H E) body t ∧ t { nx := fun _ H' => Q .non H', rt := Q } (start N vs) H) :
    FnG P w K mg base CX (k + 1) f (PySem.W.fnOf name qual params body scope dV kV doc pm an cdv ct) ps sp := by
  refine ⟨len, fun A outer s H args us vs Q E hr hgd e0 hb r hsp => ?_⟩
  have hl := len _ _ _ _ hsp
  have KX : K.In s.heap := e0.mod.kin.keeps fun b o e => (e0.bs b o e).1
  have lim : s.heap.NoLimit := e0.mod.nolimit.keeps fun b o e => (e0.bs b o e).1
  have hkind : ∀ y ∈ ps.zip us, scope.names.lookup y.1 = some .local ∨ (scope.names.lookup y.1 = some .cell ∧ ((cellsFrom (s.heap.objs.size + 1) scope.names []).lookup y.1).isSome = true) := fun ⟨n, v⟩ hy => by
    rcases S.par n (List.of_mem_zip hy).1 with q | q
    · exact .inl q
    · exact .inr ⟨q, PySem.W.cellsFrom_some _ _ _ (.inl q)⟩
  refine codeAny_call_function hr.depth (KX _ _ lk) rfl S.co S.gen rfl (PySem.W.codeRec_of KX hcd) (hb _ _ _ _ ?_)
  refine wpAny_newFunctionEnv_cells S.kind hkind fun env he s1 x => ?_
  subst he
  refine ⟨lim.keeps x.toInCall.keep, codeAny_func ?_⟩
  obtain ⟨t, ht, hq⟩ := hbody A outer s H vs Q E (hr.deeper _) hgd hsp
  have I : Inv (cxOf CX P w K mg base N qual scope f cdv A outer s H E) [] (start N vs) H s1 := inv_start S hr.hd e0 hl r x
  refine wpAny_mono (ht.run [] s1 (start N vs) H _ I hq) (fun fl s' hs => ?_) fun e s' hs => hs
  have fin : ∀ {σ' : St} {H' : Hp} {v : V} {u : Value}, Inv (cxOf CX P w K mg base N qual scope f cdv A outer s H E) [] σ' H' s' → RelV v u → Q v H' → CE outer P w H s Q u s' :=
    fun {σ' H' v u} J rv q => ⟨v, H', J.os, J.bare, J.base, J.hok, rv, q⟩
  cases fl with
  | ret u =>
    obtain ⟨v, σ', H', J, rv, q⟩ := hs
    exact fin J rv q
  | next =>
    obtain ⟨σ', H', J, q⟩ := hs
    exact fin (v := V.non) (u := Value.none) J rfl q
  | brk =>
    obtain ⟨_, _, _, q⟩ := hs
    exact False.elim q
  | cont =>
    obtain ⟨_, _, _, q⟩ := hs
    exact False.elim q
section
variable {P : Program} {w : World} {K : PySem.W.Frag} {mg : Str → Option Value} {base : Heap} {x qual : Str} {params : Arguments} {body : List Stmt} {scope : Scope} {dvs : List V} {kws : List (Str × V)} {f : Addr} {fd : FuncData}
theorem FunD.okG {CX : CXT} {N ps : List Str} {k : Nat} {sp : Sp} (F : FunD K x qual params body scope dvs kws f fd) (S : FnScope N ps scope) (len : ∀ vs H Q E, sp vs H Q E → vs.length = ps.length)
    (hbody : ∀ (cdv : Value) (A : Around) (outer : List Env) (s : Shared) (H : Hp) (vs : List V) (Q : VK) (E : XK), Room k (A.deeper (envOfC qual scope s.heap.objs.size f cdv)) → A.guards = some [] → sp vs H Q E →
      ∃ t, PSs (cxOf CX P w K mg base N qual scope f cdv A outer s H E) body t ∧ t { nx := fun _ H' => Q .non H', rt := Q } (start N vs) H) : FnG P w K mg base CX (k + 1) f fd ps sp := by
  obtain ⟨oc, od, dV, kV, doc, pm, an, cdv, ct, osl, rfl, lk, hcd, _, _⟩ := F.ex
  exact fn_ofG lk hcd S len fun A outer s H vs Q E hr hgd hsp => hbody cdv A outer s H vs Q E hr hgd hsp
end
theorem law_callG {P : Program} {w : World} {K : PySem.W.Frag} {mg mb : Str → Option Value} {CX : CXT} {k : Nat} {fa a : Addr} {fd : FuncData} {x : Str} {sp : Sp} {s₁ : Shared} {vs : List Value} {ns : List Int}
    (KX : K.In s₁.heap) (hns : s₁.heap.Ns mainGlobals mg) (hb : s₁.heap.Ns builtinsNs mb) (hbb : ∀ x : Str, x ≠ "__name__" → mb x = bootBuiltins x) (hlim : s₁.heap.NoLimit) (hg : s₁.gens = #[])
    (ha : s₁.heap.get? a = some { cls := .type "list", data := .seq vs.toArray }) (hi : IntsAre vs ns) (hl : ns.length ≤ sizeLine) (hr : Room k callerA)
    (F : ∀ base : Heap, K.In base → base.Ns mainGlobals mg → FnG P w K mg base CX k fa fd [x] sp) (hbind : ∀ (s : Shared) (u : Value), BindsTo s fd ⟨[u], []⟩ [(x, u)])
    (hsp : ∀ H : Hp, Only H → SqL K H a (ns.map V.int) → sp [.ref a] H (fun v _ => v = .bl true) fun _ _ _ => False)
    (hCX : ∀ H e s', CX [] H s₁ (fun _ _ _ => False) e s' → False) :
    codeAny (model P w) callerA (.call (.ref fa) ⟨[.ref a], []⟩) (fun r s' => r = .ok (.ret (.bool true)) ∧ OldK s₁.heap s'.heap ∧ s'.os = s₁.os ∧ AllBare s'.gens) s₁ := by
  have rv := vals_ints hi
  have lenV := hi.length
  -- from an abstract heap in which nothing but the script may be tracked
  have core : ∀ H : Hp, Only H → SqL K H a (ns.map V.int) → HOk P w H s₁.heap → (∀ b, H b ≠ none → b = a) → (H a ≠ none → K.lookup a = none) →
      codeAny (model P w) callerA (.call (.ref fa) ⟨[.ref a], []⟩) (fun r s' => r = .ok (.ret (.bool true)) ∧ OldK s₁.heap s'.heap ∧ s'.os = s₁.os ∧ AllBare s'.gens) s₁ := by
    intro H hO hS hok hA hK
    have base_of : ∀ {b : Addr} {o : Obj}, s₁.heap.get? b = some o → H b = none → (hidT s₁.heap H).get? b = some o := fun e n => hidT_get e n
    have noA : ∀ {b : Addr} {o : Obj} {es : Array DictEntry} {ep : Nat}, s₁.heap.get? b = some o → o.data = .dict es ep → H b = none := fun {b o es ep} e d => by
      cases q : H b with
      | none => rfl
      | some u =>
        have e' : b = a := hA b (by rw [q]; simp)
        subst e'
        rw [ha] at e; cases e
        have d' : Data.seq vs.toArray _ = Data.dict es ep := d
        cases d'
    have nsK : ∀ {b : Addr} {m : Str → Option Value}, s₁.heap.Ns b m → (hidT s₁.heap H).Ns b m := fun {b m} ⟨o, es, ep, e, d, r⟩ => ⟨o, es, ep, base_of e (noA e d), d, r⟩
    have hKb : K.In (hidT s₁.heap H) := fun b o e => base_of (KX b o e) (by
      cases q : H b with
      | none => rfl
      | some u =>
        have e' : b = a := hA b (by rw [q]; simp)
        subst e'
        rw [hK (by rw [q]; simp)] at e; cases e)
    have hM : Mod K mg (hidT s₁.heap H) := ⟨hKb, nsK hns, ⟨mb, nsK hb, hbb⟩, let ⟨mc, h1, h2⟩ := hlim; ⟨mc, nsK h1, h2⟩⟩
    have e0 : Env0 P w K mg (hidT s₁.heap H) callerA [] s₁ H := ⟨rfl, hM, fun b o e => of_hidT e, Nat.le_of_eq (hidT_size _ _), trivial, fun b hb => absurd (show b ∈ ([] : List Addr) from hb) (by simp), hok, .of_eq hg⟩
    refine codeAny_mono ((F _ hKb (nsK hns)).run callerA [] s₁ H ⟨[.ref a], []⟩ [.ref a] [.ref a] _ _ hr rfl e0 (hbind s₁ (.ref a)) (.cons rfl .nil) (hsp H hO hS)) fun r s' h => ?_
    cases r with
    | error e => exact (hCX H e s' h).elim
    | ok fl =>
      cases fl with
      | next => exact False.elim h
      | brk => exact False.elim h
      | cont => exact False.elim h
      | ret u =>
        obtain ⟨v, H', os, bare, un, hok', r', q⟩ := h
        have q' : v = .bl true := q
        subst q'
        obtain rfl : u = Value.bool true := r'
        refine ⟨rfl, OldK.of_keep fun b o e => ?_, os, bare⟩
        cases q : H b with
        | none => exact un.keep b o e q (by intro z; exact absurd (show b ∈ ([] : List Addr) from z) (by simp)) (by simp)
        | some u =>
          rcases hO b with z | ⟨ob, xs, z⟩
          · rw [q] at z; cases z
          · have z2 := un.frzs b ob _ z
            obtain ⟨e1, _⟩ := hok b _ z
            obtain ⟨e2, _⟩ := hok' b _ z2
            rw [e] at e1; cases e1
            exact e2
  cases hk : K.lookup a with
  | some o =>
    -- the script is one of the module's own objects
    have e := KX a o hk
    rw [ha] at e
    cases e
    refine core (fun _ => none) (fun _ => .inl rfl) (.inr ⟨_, vs.toArray, _, hk, rfl, rfl, rfl, by rw [List.size_toArray, lenV]; exact hl, by simpa using rv⟩) (fun b u z => by have z' : (none : Option HO) = some u := z; cases z') (fun b z => absurd rfl z) fun z => absurd rfl z
  | none =>
    refine core (fun b => if b = a then some (.frz { cls := .type "list", data := .seq vs.toArray } (.lst (ns.map V.int))) else none) (fun b => ?_) (.inl (.inr ⟨{ cls := .type "list", data := .seq vs.toArray }, if_pos rfl⟩)) (fun b u z => ?_) (fun b z => ?_) fun _ => hk
    · by_cases hb : b = a
      · exact .inr ⟨_, _, if_pos hb⟩
      · exact .inl (if_neg hb)
    · by_cases hb : b = a
      · have z' := (if_pos hb).symm.trans z
        cases z'
        subst hb
        exact ⟨ha, by rw [List.length_map]; exact hl, vs, _, rv, ha⟩
      · have z' := (if_neg hb).symm.trans z
        cases z'
    · by_cases hb : b = a
      · exact hb
      · exact absurd (if_neg hb) z
theorem walk_ofG {l : PySem.W.OpenLaw} {n k : Nat} {q : Program} {loose : List Str} {XP : (Str → Option Value) → Heap → Prop} {YP : World → Heap → Prop} {d : DefRec} {CX : World → CXT} {x : Str}
    (hn : l.most = some n) (hn2 : n ≤ sizeLine) (hdf : d.params.defaults = []) (hr : Room k callerA)
    (F : ∀ (w : World) (mg : Str → Option Value) (fa : Addr) (h : Heap), YP w h → h.Ns mainGlobals mg → mg d.name = some (.ref fa) →
      ∃ (K : PySem.W.Frag) (fd : FuncData) (sp : Sp), K.In h ∧ (∀ (s : Shared) (u : Value), BindsTo s fd ⟨[u], []⟩ [(x, u)]) ∧
        (∀ (H : Hp) (a : Addr) (ns : List Int), ns.length ≤ n → Only H → SqL K H a (ns.map V.int) → sp [.ref a] H (fun v _ => v = .bl true) fun _ _ _ => False) ∧
        ∀ base : Heap, K.In base → base.Ns mainGlobals mg → FnG l.prog w K mg base (CX w) k fa fd [x] sp)
    (hCX : ∀ (w : World) (H : Hp) (s : Shared) (e : Value) (s' : Shared), CX w [] H s (fun _ _ _ => False) e s' → False) :
    PySem.W.WalkO q loose XP YP l.row.toRowW d [] (fun f vs => PySem.call f vs) := by
  refine Att.attach_call hn hdf fun w s₀ s₁ mg mb fa o pm cd doc a vs ns G Y ho hd hcd hmg hobj hints hlen hg => ?_
  obtain ⟨K, fd, sp, KX, hb, hsp, hF⟩ := F w mg fa _ Y G.T.g hmg
  exact law_callG KX G.T.g G.T.b G.T.builtins G.T.nolimit hg hobj hints (Nat.le_trans hlen hn2) hr hF hb (fun H hO hS => hsp H a ns hlen hO hS) fun H e s' => hCX w H s₁ e s'
/-- the widest wish about exceptions -/
def Wm (X : Cx) : WX := fun cls d σ H => ∀ (u : Value) (s' : Shared), L2N.XE X (fun cls' d' σ' H' => cls' = cls ∧ d' = d ∧ σ' = σ ∧ H' = H) u s' → X.xe u s'
theorem takes_wm {X : Cx} : L2N.Takes X (Wm X) := fun u s' ⟨a, B, sI, pins, σ, H, cls, d, e, I, nb, up, sky, na, os, ag, w⟩ =>
  w u s' ⟨a, B, sI, pins, σ, H, cls, d, e, I, nb, up, sky, na, os, ag, rfl, rfl, rfl, rfl⟩
theorem le_wm {X : Cx} {W : WX} (tk : L2N.Takes X W) {cls : Value} {d : Option Addr} {σ : St} {H : Hp} (h : W cls d σ H) : Wm X cls d σ H := fun u s' ⟨a, B, sI, pins, σ', H', cls', d', e, I, nb, up, sky, na, os, ag, e1, e2, e3, e4⟩ => by
  subst e1 e2 e3 e4
  exact tk u s' ⟨a, B, sI, pins, _, _, _, _, e, I, nb, up, sky, na, os, ag, h⟩
theorem passW {X : Cx} (σ : St) : PassesAt (L2N.CX X.prog X.w) X σ (WE (Wm X) σ)   := L2N.passAt takes_wm σ
theorem passN {X : Cx} : Passes (L2N.CX X.prog X.w) X (fun _ _ _ => False) := fun _ _ _ _ _ _ _ ⟨_, _, _, _, _, _, _, _, _, _, _, _, h⟩ => h.elim
end L2
set_option Elab.async false
set_option linter.all false
set_option maxRecDepth 100000
set_option maxHeartbeats 1000000
namespace L3
open PySem PySem.Spec PyProof.Rows L2
abbrev K3 := D → Mem → Prop
abbrev TE3 := St3 → Mem → K3 → Prop
abbrev TN3 := St3 → Mem → (O → Mem → Prop) → Prop
abbrev TT3 := St3 → Mem → (Bool → Mem → Prop) → Prop
abbrev TA3 := St3 → Mem → (List D → Mem → Prop) → Prop
structure Ends3 where
  nx : St3 → Mem → Prop
  rt : K3
  bk : St3 → Mem → Prop := fun _ _ => False
  ct : St3 → Mem → Prop := fun _ _ => False
  ro : O → Mem → Prop := fun _ _ => False
abbrev TS3 := Ends3 → St3 → Mem → Prop
/-- an exception, told -/
structure Exn3 where
  C : Addr
  ns : List Str
  ds : List D
/-- where exceptions go -/
class XCt where
  xc : Exn3 → St3 → Mem → Prop
@[reducible] def XCt.dead : XCt := ⟨fun _ _ _ => False⟩
/-- the exception, read: its dict is public -/
def ExcR (w : Wd) (cls : Value) (d : Option Addr) (e : Exn3) : Prop :=
  cls = .ref e.C ∧ ((d = none ∧ e.ns = [] ∧ e.ds = []) ∨ ∃ dx fs, d = some dx ∧ w.G dx = some (.xd fs) ∧ fs.map (·.1) = e.ns ∧ DRs w.B w.G e.ds (fs.map (·.2)))
theorem ExcR.step {w w1 : Wd} {H H1 : Hp} {cls : Value} {d : Option Addr} {e : Exn3} (h : ExcR w cls d e) (s : Step w H w1 H1) : ExcR w1 cls d e := by
  obtain ⟨a, b | ⟨dx, fs, b, c, r, t⟩⟩ := h
  · exact ⟨a, .inl b⟩
  · exact ⟨a, .inr ⟨dx, fs, b, s.gg _ _ c, r, s.drs t⟩⟩
/-- the start of a def, and what is wished of exceptions -/
structure F0 (W : WX) [XCt] (w0 : W0) where
  hp : Hp
  xl : ∀ (e : Exn3) (cls : Value) (d : Option Addr) (w : Wd) (σ3 : St3) (σ : St2) (H : Hp), SR w0 hp w H σ3 σ → ExcR w cls d e → XCt.xc e σ3 w.n → W cls d σ H
instance {W : WX} [XCt] {w0 : W0} : CoeOut (F0 W w0) Hp := ⟨F0.hp⟩
def F0.dead (W : WX) (w0 : W0) (H0 : Hp) : @F0 W XCt.dead w0 := @F0.mk W XCt.dead w0 H0 fun _ _ _ _ _ _ _ _ _ z => z.elim
variable [XCt]
/-- what a value can be read as now: public data, or an object that may be changed -/
def VR (w : Wd) (H : Hp) (d : D) (v : V) : Prop :=
  DR w.B w.G d v ∨ ∃ l o ho, v = .ref l ∧ d = o.toD ∧ w.G l = none ∧ H l = some ho ∧ OR w.B w.G l o ho
/-- .. and later too: public data, or an object of one's own -/
def VS (w : Wd) (H : Hp) (d : D) (v : V) : Prop :=
  DR w.B w.G d v ∨ ∃ l o ho, v = .ref l ∧ d = o.toD ∧ w.G l = none ∧ ¬ w.B l ∧ H l = some ho ∧ OR w.B w.G l o ho
theorem VS.now {w : Wd} {H : Hp} {d : D} {v : V} (h : VS w H d v) : VR w H d v := by
  rcases h with h | ⟨l, o, ho, e1, e2, g, b, at_, r⟩
  · exact .inl h
  · exact .inr ⟨l, o, ho, e1, e2, g, at_, r⟩
instance {w : Wd} {H : Hp} {d : D} {v : V} : Coe (VS w H d v) (VR w H d v) := ⟨VS.now⟩
theorem VS.step {w w1 : Wd} {H H1 : Hp} {d : D} {v : V} (h : VS w H d v) (s : Step w H w1 H1) : VS w1 H1 d v := by
  rcases h with h | ⟨l, o, ho, e1, e2, g, b, at_, r⟩
  · exact .inl (s.dr h)
  · have ne : H l ≠ none := by rw [at_]; simp
    exact .inr ⟨l, o, ho, e1, e2, s.newG l ne b g, s.newB l ne b, s.hh l ho at_ b, r.mono s.gg s.bb⟩
/-- a new object -/
def NR (H : Hp) (w' : Wd) (H' : Hp) (o : O) (v : V) : Prop :=
  ∃ l ho, v = .ref l ∧ H l = none ∧ w'.G l = none ∧ ¬ w'.B l ∧ H' l = some ho ∧ OR w'.B w'.G l o ho
section
/-- readings of the layer below -/
def teOf (X : Cx) (t : TE3) : TE := fun σ H Q2 => ∃ w w0, ∃ H0 : F0 (Wm X) w0, ∃ σ3 Q, SR w0 H0 w H σ3 σ ∧ t σ3 w.n Q ∧ ∀ d v w' H', Step w H w' H' → DR w'.B w'.G d v → Q d w'.n → Q2 v H'
def tvOf (X : Cx) (t : TE3) : TE := fun σ H Q2 => ∃ w w0, ∃ H0 : F0 (Wm X) w0, ∃ σ3 Q, SR w0 H0 w H σ3 σ ∧ t σ3 w.n Q ∧ ∀ d v w' H', Step w H w' H' → VS w' H' d v → Q d w'.n → Q2 v H'
def tnOf (X : Cx) (t : TN3) : TE := fun σ H Q2 => ∃ w w0, ∃ H0 : F0 (Wm X) w0, ∃ σ3 Q, SR w0 H0 w H σ3 σ ∧ t σ3 w.n Q ∧ ∀ o v w' H', Step w H w' H' → NR H w' H' o v → Q o w'.n → Q2 v H'
def ttOf (X : Cx) (t : TT3) : TT := fun σ H Q2 => ∃ w w0, ∃ H0 : F0 (Wm X) w0, ∃ σ3 Q, SR w0 H0 w H σ3 σ ∧ t σ3 w.n Q ∧ ∀ b w' H', Step w H w' H' → Q b w'.n → Q2 b H'
def taOf (X : Cx) (t : TA3) : TA := fun σ H Q2 => ∃ w w0, ∃ H0 : F0 (Wm X) w0, ∃ σ3 Q, SR w0 H0 w H σ3 σ ∧ t σ3 w.n Q ∧ ∀ ds vs w' H', Step w H w' H' → DRs w'.B w'.G ds vs → Q ds w'.n → Q2 vs H'
/-- the ends, below -/
def endsOf (w0 : W0) (H0 : Hp) (w : Wd) (E : Ends3) : Ends where
  nx := fun σ' H' => ∃ w' σ3', SR w0 H0 w' H' σ3' σ' ∧ Later w w' ∧ E.nx σ3' w'.n
  rt := fun v H' => ∃ w', Step w0.s H0 w' H' ∧ ((∃ d, DR w'.B w'.G d v ∧ E.rt d w'.n) ∨ ∃ o, NR H0 w' H' o v ∧ E.ro o w'.n)
  bk := fun σ' H' => ∃ w' σ3', SR w0 H0 w' H' σ3' σ' ∧ Later w w' ∧ E.bk σ3' w'.n
  ct := fun σ' H' => ∃ w' σ3', SR w0 H0 w' H' σ3' σ' ∧ Later w w' ∧ E.ct σ3' w'.n
structure EndsLe (D D' : Ends) : Prop where
  nx : ∀ σ' H', D.nx σ' H' → D'.nx σ' H'
  rt : ∀ v H', D.rt v H' → D'.rt v H'
  bk : ∀ σ' H', D.bk σ' H' → D'.bk σ' H'
  ct : ∀ σ' H', D.ct σ' H' → D'.ct σ' H'
def tsOf (X : Cx) (t : TS3) : TS := fun D σ H => ∃ w w0, ∃ H0 : F0 (Wm X) w0, ∃ σ3 E, SR w0 H0 w H σ3 σ ∧ t E σ3 w.n ∧ EndsLe (endsOf w0 H0 w E) D
end
section
variable {X : Cx} {w : Wd} {w0 : W0} {H : Hp} {H0 : F0 (Wm X) w0} {σ3 : St3} {σ : St2}
theorem teOf.use {t : TE3} {Q : K3} {Q2 : VK} (sr : SR w0 H0 w H σ3 σ) (h : t σ3 w.n Q) (k : ∀ d v w' H', Step w H w' H' → DR w'.B w'.G d v → Q d w'.n → Q2 v H') : teOf X t σ H Q2 := ⟨w, w0, H0, σ3, Q, sr, h, k⟩
theorem tvOf.use {t : TE3} {Q : K3} {Q2 : VK} (sr : SR w0 H0 w H σ3 σ) (h : t σ3 w.n Q) (k : ∀ d v w' H', Step w H w' H' → VS w' H' d v → Q d w'.n → Q2 v H') : tvOf X t σ H Q2 := ⟨w, w0, H0, σ3, Q, sr, h, k⟩
theorem ttOf.use {t : TT3} {Q} {Q2 : Bool → Hp → Prop} (sr : SR w0 H0 w H σ3 σ) (h : t σ3 w.n Q) (k : ∀ b w' H', Step w H w' H' → Q b w'.n → Q2 b H') : ttOf X t σ H Q2 := ⟨w, w0, H0, σ3, Q, sr, h, k⟩
theorem taOf.use {t : TA3} {Q} {Q2 : List V → Hp → Prop} (sr : SR w0 H0 w H σ3 σ) (h : t σ3 w.n Q) (k : ∀ ds vs w' H', Step w H w' H' → DRs w'.B w'.G ds vs → Q ds w'.n → Q2 vs H') : taOf X t σ H Q2 := ⟨w, w0, H0, σ3, Q, sr, h, k⟩
theorem tsOf.self {t : TS3} {E : Ends3} (sr : SR w0 H0 w H σ3 σ) (h : t E σ3 w.n) : tsOf X t (endsOf w0 H0 w E) σ H :=
  ⟨w, w0, H0, σ3, E, sr, h, fun _ _ q => q, fun _ _ q => q, fun _ _ q => q, fun _ _ q => q⟩
theorem endsOf.from_ {H0 : Hp} {w1 : Wd} {E : Ends3} (l : Later w w1) : EndsLe (endsOf w0 H0 w1 E) (endsOf w0 H0 w E) :=
  ⟨fun _ _ ⟨w', s, sr, l', q⟩ => ⟨w', s, sr, l.trans l', q⟩, fun _ _ q => q, fun _ _ ⟨w', s, sr, l', q⟩ => ⟨w', s, sr, l.trans l', q⟩, fun _ _ ⟨w', s, sr, l', q⟩ => ⟨w', s, sr, l.trans l', q⟩⟩
/-- a statement that stands at a later point -/
theorem tsOf.at_ {t : TS3} {E : Ends3} {w1 : Wd} (sr : SR w0 H0 w1 H σ3 σ) (l : Later w w1) (h : t E σ3 w1.n) : tsOf X t (endsOf w0 H0 w E) σ H := ⟨w1, w0, H0, σ3, E, sr, h, endsOf.from_ l⟩
end
/-- an expression gives public data -/
structure DE (X : Cx) (e : Expr) (t : TE3) : Prop where
  pe : PE X e (teOf X t)
/-- .. something to be read -/
structure DV (X : Cx) (e : Expr) (t : TE3) : Prop where
  pe : PE X e (tvOf X t)
/-- .. a new object -/
structure DN (X : Cx) (e : Expr) (t : TN3) : Prop where
  pe : PE X e (tnOf X t)
structure DT (X : Cx) (e : Expr) (t : TT3) : Prop where
  pt : PT X e (ttOf X t)
structure DW (X : Cx) (e : Expr) (t : TT3) : Prop where
  pw : PW X e (ttOf X t)
structure DA (X : Cx) (es : List Expr) (t : TA3) : Prop where
  pa : PA X es (taOf X t)
structure DS (X : Cx) (st : Stmt) (t : TS3) : Prop where
  ps : PS X st (tsOf X t)
structure DSs (X : Cx) (sts : List Stmt) (t : TS3) : Prop where
  pss : PSs X sts (tsOf X t)
section
variable {X : Cx} {e : Expr}
theorem PE.imp {te te' : TE} (h : PE X e te) (i : ∀ σ H Q, te' σ H Q → te σ H Q) : PE X e te' := ⟨fun pins s σ H Q I q => h.run pins s σ H Q I (i σ H Q q)⟩
theorem PT.imp {te te' : TT} (h : PT X e te) (i : ∀ σ H Q, te' σ H Q → te σ H Q) : PT X e te' := ⟨fun pins s σ H Q I q => h.run pins s σ H Q I (i σ H Q q)⟩
theorem PW.imp {te te' : TT} (h : PW X e te) (i : ∀ σ H Q, te' σ H Q → te σ H Q) : PW X e te' := ⟨fun wh pins s σ H Q I q => h.run wh pins s σ H Q I (i σ H Q q)⟩
theorem PA.imp {es : List Expr} {te te' : TA} (h : PA X es te) (i : ∀ σ H Q, te' σ H Q → te σ H Q) : PA X es te' := ⟨fun pos pins s σ H Q I q => h.run pos pins s σ H Q I (i σ H Q q)⟩
theorem PS.imp {st : Stmt} {te te' : TS} (h : PS X st te) (i : ∀ D σ H, te' D σ H → te D σ H) : PS X st te' := ⟨fun pins s σ H D I q => h.run pins s σ H D I (i D σ H q)⟩
theorem PSs.imp {st : List Stmt} {te te' : TS} (h : PSs X st te) (i : ∀ D σ H, te' D σ H → te D σ H) : PSs X st te' := ⟨fun pins s σ H D I q => h.run pins s σ H D I (i D σ H q)⟩
theorem PS.weak {st : Stmt} {D D' : Ends} {pins : List (Addr × Obj)} {s : Shared} (h : wpAny (model X.prog X.w) X.A (exec st X.env) (SP X pins D) X.xe s) (hn : ∀ σ H, D.nx σ H → D'.nx σ H) (hr : ∀ v H, D.rt v H → D'.rt v H) (hb : ∀ σ H, D.bk σ H → D'.bk σ H) (hc : ∀ σ H, D.ct σ H → D'.ct σ H) :
    wpAny (model X.prog X.w) X.A (exec st X.env) (SP X pins D') X.xe s := thn h fun f s' q => by
  cases f with
  | next => obtain ⟨σ', H', I, q⟩ := q; exact ⟨σ', H', I, hn _ _ q⟩
  | brk => obtain ⟨σ', H', I, q⟩ := q; exact ⟨σ', H', I, hb _ _ q⟩
  | cont => obtain ⟨σ', H', I, q⟩ := q; exact ⟨σ', H', I, hc _ _ q⟩
  | ret u => obtain ⟨v, σ', H', I, r, q⟩ := q; exact ⟨v, σ', H', I, r, hr _ _ q⟩
theorem PSs.weak {st : List Stmt} {D D' : Ends} {pins : List (Addr × Obj)} {s : Shared} (h : wpAny (model X.prog X.w) X.A (execs st X.env) (SP X pins D) X.xe s) (hn : ∀ σ H, D.nx σ H → D'.nx σ H) (hr : ∀ v H, D.rt v H → D'.rt v H) (hb : ∀ σ H, D.bk σ H → D'.bk σ H) (hc : ∀ σ H, D.ct σ H → D'.ct σ H) :
    wpAny (model X.prog X.w) X.A (execs st X.env) (SP X pins D') X.xe s := thn h fun f s' q => by
  cases f with
  | next => obtain ⟨σ', H', I, q⟩ := q; exact ⟨σ', H', I, hn _ _ q⟩
  | brk => obtain ⟨σ', H', I, q⟩ := q; exact ⟨σ', H', I, hb _ _ q⟩
  | cont => obtain ⟨σ', H', I, q⟩ := q; exact ⟨σ', H', I, hc _ _ q⟩
  | ret u => obtain ⟨v, σ', H', I, r, q⟩ := q; exact ⟨v, σ', H', I, r, hr _ _ q⟩
/-- an expression: from its reading below -/
theorem DE.of {te : TE} {t : TE3} (h : PE X e te)
    (i : ∀ (w : Wd) (w0 : W0) (H0 : F0 (Wm X) w0) (σ3 : St3) (σ : St2) (H : Hp) (Q : K3), SR w0 H0 w H σ3 σ → t σ3 w.n Q → te σ H fun v H' => ∃ w' d, Step w H w' H' ∧ DR w'.B w'.G d v ∧ Q d w'.n) : DE X e t :=
  ⟨⟨fun pins s σ H Q2 I ⟨w, w0, H0, σ3, Q, sr, q, k⟩ => thn (h.run pins s σ H _ I (i w w0 H0 σ3 σ H Q sr q)) fun u s' ⟨v, H', I', r, w', d, st, dr, q'⟩ => ⟨v, H', I', r, k d v w' H' st dr q'⟩⟩⟩
theorem DV.of {te : TE} {t : TE3} (h : PE X e te)
    (i : ∀ (w : Wd) (w0 : W0) (H0 : F0 (Wm X) w0) (σ3 : St3) (σ : St2) (H : Hp) (Q : K3), SR w0 H0 w H σ3 σ → t σ3 w.n Q → te σ H fun v H' => ∃ w' d, Step w H w' H' ∧ VS w' H' d v ∧ Q d w'.n) : DV X e t :=
  ⟨⟨fun pins s σ H Q2 I ⟨w, w0, H0, σ3, Q, sr, q, k⟩ => thn (h.run pins s σ H _ I (i w w0 H0 σ3 σ H Q sr q)) fun u s' ⟨v, H', I', r, w', d, st, dr, q'⟩ => ⟨v, H', I', r, k d v w' H' st dr q'⟩⟩⟩
theorem DN.of {te : TE} {t : TN3} (h : PE X e te)
    (i : ∀ (w : Wd) (w0 : W0) (H0 : F0 (Wm X) w0) (σ3 : St3) (σ : St2) (H : Hp) (Q : O → Mem → Prop), SR w0 H0 w H σ3 σ → t σ3 w.n Q → te σ H fun v H' => ∃ w' o, Step w H w' H' ∧ NR H w' H' o v ∧ Q o w'.n) : DN X e t :=
  ⟨⟨fun pins s σ H Q2 I ⟨w, w0, H0, σ3, Q, sr, q, k⟩ => thn (h.run pins s σ H _ I (i w w0 H0 σ3 σ H Q sr q)) fun u s' ⟨v, H', I', r, w', d, st, dr, q'⟩ => ⟨v, H', I', r, k d v w' H' st dr q'⟩⟩⟩
theorem DT.of {te : TT} {t : TT3} (h : PT X e te)
    (i : ∀ (w : Wd) (w0 : W0) (H0 : F0 (Wm X) w0) (σ3 : St3) (σ : St2) (H : Hp) (Q : Bool → Mem → Prop), SR w0 H0 w H σ3 σ → t σ3 w.n Q → te σ H fun b H' => ∃ w', Step w H w' H' ∧ Q b w'.n) : DT X e t :=
  ⟨⟨fun pins s σ H Q2 I ⟨w, w0, H0, σ3, Q, sr, q, k⟩ => thn (h.run pins s σ H _ I (i w w0 H0 σ3 σ H Q sr q)) fun u s' ⟨H', I', w', st, q'⟩ => ⟨H', I', k u w' H' st q'⟩⟩⟩
theorem DW.of {te : TT} {t : TT3} (h : PW X e te)
    (i : ∀ (w : Wd) (w0 : W0) (H0 : F0 (Wm X) w0) (σ3 : St3) (σ : St2) (H : Hp) (Q : Bool → Mem → Prop), SR w0 H0 w H σ3 σ → t σ3 w.n Q → te σ H fun b H' => ∃ w', Step w H w' H' ∧ Q b w'.n) : DW X e t :=
  ⟨⟨fun wh pins s σ H Q2 I ⟨w, w0, H0, σ3, Q, sr, q, k⟩ => thn (h.run wh pins s σ H _ I (i w w0 H0 σ3 σ H Q sr q)) fun u s' ⟨H', I', w', st, q'⟩ => ⟨H', I', k u w' H' st q'⟩⟩⟩
theorem DA.of {es : List Expr} {te : TA} {t : TA3} (h : PA X es te)
    (i : ∀ (w : Wd) (w0 : W0) (H0 : F0 (Wm X) w0) (σ3 : St3) (σ : St2) (H : Hp) (Q : List D → Mem → Prop), SR w0 H0 w H σ3 σ → t σ3 w.n Q → te σ H fun vs H' => ∃ w' ds, Step w H w' H' ∧ DRs w'.B w'.G ds vs ∧ Q ds w'.n) : DA X es t :=
  ⟨⟨fun pos pins s σ H Q2 I ⟨w, w0, H0, σ3, Q, sr, q, k⟩ => thn (h.run pos pins s σ H _ I (i w w0 H0 σ3 σ H Q sr q)) fun u s' ⟨v, H', I', r, w', d, st, dr, q'⟩ => ⟨v, H', I', r, k d v w' H' st dr q'⟩⟩⟩
theorem DS.of {st : Stmt} {ts : TS} {t : TS3} (h : PS X st ts)
    (i : ∀ (w : Wd) (w0 : W0) (H0 : F0 (Wm X) w0) (σ3 : St3) (σ : St2) (H : Hp) (E : Ends3), SR w0 H0 w H σ3 σ → t E σ3 w.n → ts (endsOf w0 H0 w E) σ H) : DS X st t :=
  ⟨⟨fun pins s σ H D I ⟨w, w0, H0, σ3, E, sr, q, kn, kr, kb, kc⟩ => PS.weak (h.run pins s σ H _ I (i w w0 H0 σ3 σ H E sr q)) kn kr kb kc⟩⟩
theorem DSs.of {st : List Stmt} {ts : TS} {t : TS3} (h : PSs X st ts)
    (i : ∀ (w : Wd) (w0 : W0) (H0 : F0 (Wm X) w0) (σ3 : St3) (σ : St2) (H : Hp) (E : Ends3), SR w0 H0 w H σ3 σ → t E σ3 w.n → ts (endsOf w0 H0 w E) σ H) : DSs X st t :=
  ⟨⟨fun pins s σ H D I ⟨w, w0, H0, σ3, E, sr, q, kn, kr, kb, kc⟩ => PSs.weak (h.run pins s σ H _ I (i w w0 H0 σ3 σ H E sr q)) kn kr kb kc⟩⟩
end
section
variable {X : Cx} {e : Expr}
theorem DV.ofE {t : TE3} (h : DE X e t) : DV X e t :=
  .of h.pe fun w w0 H0 σ3 σ H Q sr q => teOf.use sr q fun d v w' H' st dr q' => ⟨w', d, st, .inl dr, q'⟩
/-- .. where a thing may be locked -/
def Lk (H' : Hp) (P : Hp → Prop) : Prop := P H' ∨ ∃ d u, H' d = some u ∧ Mut (some u) ∧ ∀ od, P (upd H' d (.frz od u))
theorem pe_lk {t : TE} (h : PE X e t) : PE X e (fun σ H Q => t σ H fun v H' => Lk H' fun H2 => Q v H2) :=
  ⟨fun pins s σ H Q I hw => thn (h.run pins s σ H _ I hw) fun v s1 ⟨x, H1, I1, r, q⟩ => by
    rcases q with q | ⟨d, u, hd, mu, q⟩
    · exact ⟨x, H1, I1, r, q⟩
    · obtain ⟨od, I2⟩ := I1.lock hd mu
      exact ⟨x, _, I2, r, q od⟩⟩
theorem upd_self {H : Hp} {l : Addr} {ho : HO} (h : H l = some ho) : upd H l ho = H := by
  funext a
  by_cases q : a = l
  · rw [q, upd_same, h]
  · rw [upd_ne q]
theorem Step.pubAt {w w' : Wd} {H H' : Hp} {o : O} {l : Addr} {ho : HO} (od : Obj) (st : Step w H w' H') (hn : H l = none) (g : w'.G l = none) (b : ¬ w'.B l) (at_ : H' l = some ho) (r : OR w'.B w'.G l o ho) :
    Step w H { w' with G := upd w'.G l (o.pub od ho) } (upd H' l (o.pub od ho)) := by
  refine ⟨⟨fun a u e => ?_, fun c hc => ?_, fun i c hc => ?_, st.ok.cnd, st.ok.cln, fun a xs e => ?_⟩, st.gg.trans (Ex.new g), st.bb, fun a u e nb => ?_, fun a ha nb e => ?_, st.newB, st.nn⟩
  · have e : upd w'.G l (o.pub od ho) a = some u := e
    by_cases q : a = l
    · rw [q, upd_same] at e
      rw [q, upd_same]; exact e
    · rw [upd_ne q] at e
      rw [upd_ne q]; exact st.ok.gh a u e
  · obtain ⟨g', x, j, k, e, c'⟩ := st.ok.box c hc
    have ne : c ≠ l := fun z => b (by rw [← z]; exact .inl hc)
    exact ⟨by show upd w'.G l (o.pub od ho) c = none; rw [upd_ne ne]; exact g', x, j, k, by rw [upd_ne ne]; exact e, c'⟩
  · obtain ⟨nb, ⟨h1, e1⟩, k⟩ := st.ok.cel i c hc
    have ne : c ≠ l := fun z => b (by rw [← z]; exact .inr (List.mem_of_getElem? hc))
    exact ⟨nb, ⟨h1, by rw [upd_ne ne]; exact e1⟩, fun o1 eo => let ⟨g', ho1, e2, r1⟩ := k o1 eo; ⟨by show upd w'.G l (o.pub od ho) c = none; rw [upd_ne ne]; exact g', ho1, by rw [upd_ne ne]; exact e2, r1.mono (Ex.new g) .refl⟩⟩
  · show upd w'.G l (o.pub od ho) a = some (.tup xs)
    by_cases q : a = l
    · rw [q, upd_same] at e
      exact absurd (Option.some.inj e) (r.pubTup xs)
    · rw [upd_ne q] at e
      rw [upd_ne q]; exact st.ok.tp a xs e
  · have ne : a ≠ l := fun z => by rw [z, hn] at e; cases e
    rw [upd_ne ne]; exact st.hh a u e nb
  · have ne : a ≠ l := fun z => ha (by rw [z]; exact hn)
    show upd w'.G l (o.pub od ho) a = none
    rw [upd_ne ne]
    exact st.newG a ha nb e
theorem Step.own_pub {w w' : Wd} {H H' : Hp} {o : O} {v : V} (st : Step w H w' H') (h : NR H w' H' o v) : Lk H' fun H2 => ∃ G', Step w H { w' with G := G' } H2 ∧ DR w'.B G' o.toD v := by
  obtain ⟨l, ho, rfl, hn, g, b, at_, r⟩ := h
  cases q : o.locks with
  | true =>
    refine .inr ⟨l, ho, at_, r.mut, fun od => ⟨upd w'.G l (o.pub od ho), ?_, ?_⟩⟩
    · rw [← O.pub_yes (o := o) q]; exact st.pubAt od hn g b at_ r
    · exact OR.toD upd_same (r.mono (Ex.new g) .refl)
  | false =>
    have od : Obj := { cls := .none, data := .seq #[] }
    refine .inl ⟨upd w'.G l (o.pub od ho), ?_, ?_⟩
    · have s := st.pubAt od hn g b at_ r
      have e : upd H' l (o.pub od ho) = H' := by rw [O.pub_no q]; exact upd_self at_
      rw [e] at s
      exact s
    · exact OR.toD upd_same (r.mono (Ex.new g) .refl)
theorem Lk.imp {H : Hp} {P Q : Hp → Prop} (h : Lk H P) (i : ∀ H, P H → Q H) : Lk H Q := by
  rcases h with h | ⟨d, u, hd, mu, h⟩
  · exact .inl (i _ h)
  · exact .inr ⟨d, u, hd, mu, fun od => i _ (h od)⟩
/-- a new object becomes public data -/
theorem DE.ofN {t : TN3} (h : DN X e t) : DE X e (fun σ n Q => t σ n fun o n' => Q o.toD n') :=
  ⟨PE.imp (pe_lk h.pe) fun σ H Q2 ⟨w, w0, H0, σ3, Q, sr, q, k⟩ => ⟨w, w0, H0, σ3, _, sr, q, fun o v w' H' st nr q' => (st.own_pub nr).imp fun H2 ⟨G', st', dr⟩ => k o.toD v { w' with G := G' } H2 st' dr q'⟩⟩
theorem DV.imp {t t' : TE3} (h : DV X e t) (i : ∀ σ n Q, t' σ n Q → t σ n Q) : DV X e t' := ⟨PE.imp h.pe fun σ H Q2 ⟨w, w0, H0, σ3, Q, sr, q, k⟩ => ⟨w, w0, H0, σ3, Q, sr, i _ _ _ q, k⟩⟩
theorem DE.imp {t t' : TE3} (h : DE X e t) (i : ∀ σ n Q, t' σ n Q → t σ n Q) : DE X e t' := ⟨PE.imp h.pe fun σ H Q2 ⟨w, w0, H0, σ3, Q, sr, q, k⟩ => ⟨w, w0, H0, σ3, Q, sr, i _ _ _ q, k⟩⟩
end
end L3
set_option Elab.async false
set_option linter.all false
set_option maxRecDepth 100000
set_option maxHeartbeats 1000000
namespace L3
open PySem PySem.Spec PyProof.Rows L2
variable [XCt]
section
variable {w : Wd} {H : Hp} {v : V}
theorem VR.lst {ds : List D} (ok : WOk w H) (h : VR w H (.lst ds) v) : ∃ a xs, v = .ref a ∧ H a = some (.lst xs) ∧ DRs w.B w.G ds xs := by
  rcases h with h | ⟨l, o, ho, e1, e2, g, at_, r⟩
  · unfold DR at h
    obtain ⟨a, xs, e, q, t⟩ := h
    exact ⟨a, xs, e, ok.gh _ _ q, t⟩
  · cases o with
    | lst es =>
      cases e2
      obtain ⟨xs, e, t⟩ := r
      subst e
      exact ⟨l, xs, e1, at_, t⟩
    | dk ks es => cases e2
    | dt ks es => cases e2
    | ins C y ns es => cases e2
theorem VR.tup {ds : List D} (ok : WOk w H) (h : VR w H (.tup ds) v) : ∃ a xs, v = .ref a ∧ w.G a = some (.tup xs) ∧ H a = some (.tup xs) ∧ DRs w.B w.G ds xs := by
  rcases h with h | ⟨l, o, ho, e1, e2, g, at_, r⟩
  · unfold DR at h
    obtain ⟨a, xs, e, q, t⟩ := h
    exact ⟨a, xs, e, q, ok.gh _ _ q, t⟩
  · cases o <;> cases e2
theorem VR.dk {ks : List Key} {ds : List D} (ok : WOk w H) (h : VR w H (.dk ks ds) v) : ∃ a kvs, v = .ref a ∧ Rd H a (.dK kvs) ∧ kvs.map (·.1) = ks ∧ ks.all kOk = true ∧ DRs w.B w.G ds (kvs.map (·.2)) := by
  rcases h with h | ⟨l, o, ho, e1, e2, g, at_, r⟩
  · unfold DR at h
    obtain ⟨a, xs, od, e, q, u, k, t⟩ := h
    exact ⟨a, xs, e, .inr ⟨od, ok.gh _ _ q⟩, u, k, t⟩
  · cases o with
    | dk ks' es =>
      cases e2
      obtain ⟨xs, e, u, k, t⟩ := r
      subst e
      exact ⟨l, xs, e1, .inl at_, u, k, t⟩
    | lst es => cases e2
    | dt ks es => cases e2
    | ins C y ns es => cases e2
theorem VR.dt {ks : List (List Key)} {ds : List D} (ok : WOk w H) (h : VR w H (.dt ks ds) v) : ∃ a kvs, v = .ref a ∧ Rd H a (.dT kvs) ∧ kvs.map (·.1) = ks ∧ ks.all kOkT = true ∧ DRs w.B w.G ds (kvs.map (·.2)) := by
  rcases h with h | ⟨l, o, ho, e1, e2, g, at_, r⟩
  · unfold DR at h
    obtain ⟨a, xs, od, e, q, u, k, t⟩ := h
    exact ⟨a, xs, e, .inr ⟨od, ok.gh _ _ q⟩, u, k, t⟩
  · cases o with
    | dt ks' es =>
      cases e2
      obtain ⟨xs, e, u, k, t⟩ := r
      subst e
      exact ⟨l, xs, e1, .inl at_, u, k, t⟩
    | lst es => cases e2
    | dk ks es => cases e2
    | ins C y ns es => cases e2
theorem VR.obj {C : Addr} {ns : List Str} {ds : List D} (ok : WOk w H) (h : VR w H (.obj C ns ds) v) : ∃ a dx fs, v = .ref a ∧ H a = some (.ins C dx fs) ∧ fs.map (·.1) = ns ∧ DRs w.B w.G ds (fs.map (·.2)) := by
  rcases h with h | ⟨l, o, ho, e1, e2, g, at_, r⟩
  · unfold DR at h
    obtain ⟨a, dx, xs, e, q, u, t⟩ := h
    exact ⟨a, dx, xs, e, ok.gh _ _ q, u, t⟩
  · cases o with
    | ins C y ns es =>
      cases e2
      obtain ⟨_, dx, xs, e, u, t⟩ := r
      subst e
      exact ⟨l, dx, xs, e1, at_, u, t⟩
    | lst es => cases e2
    | dk ks es => cases e2
    | dt ks es => cases e2
/-- what is no container of one's own is public -/
def D.flat : D → Bool
  | .lst _ => false
  | .dk _ _ => false
  | .dt _ _ => false
  | .obj _ _ _ => false
  | _ => true
theorem VR.flat {d : D} (h : VR w H d v) (f : d.flat = true) : DR w.B w.G d v := by
  rcases h with h | ⟨l, o, ho, e1, e2, g, at_, r⟩
  · exact h
  · cases o <;> (subst e2; cases f)
theorem VR.int {i : Int} (h : VR w H (.int i) v) : v = .int i := by
  have q := h.flat rfl
  unfold DR at q; exact q
theorem VR.str {i : Str} (h : VR w H (.str i) v) : v = .str i := by
  have q := h.flat rfl
  unfold DR at q; exact q.1
theorem VR.strOk {i : Str} (h : VR w H (.str i) v) : PyData.strOk i = true := by
  have q := h.flat rfl
  unfold DR at q; exact q.2
theorem VR.bl {i : Bool} (h : VR w H (.bl i) v) : v = .bl i := by
  have q := h.flat rfl
  unfold DR at q; exact q
theorem VR.cel {i : Nat} (h : VR w H (.cel i) v) : ∃ a, v = .ref a ∧ w.B.ad[i]? = some a := by
  rcases h with h | ⟨l, o, ho, e1, e2, _⟩
  · unfold DR at h; exact h
  · cases o <;> cases e2
theorem VR.non (h : VR w H .non v) : v = .non := by
  have q := h.flat rfl
  unfold DR at q; exact q
/-- .. and so of what is steady -/
theorem VS.lst {ds : List D} (ok : WOk w H) (h : VS w H (.lst ds) v) : ∃ a xs, v = .ref a ∧ H a = some (.lst xs) ∧ DRs w.B w.G ds xs := h.now.lst ok
theorem VS.tup {ds : List D} (ok : WOk w H) (h : VS w H (.tup ds) v) : ∃ a xs, v = .ref a ∧ w.G a = some (.tup xs) ∧ H a = some (.tup xs) ∧ DRs w.B w.G ds xs := h.now.tup ok
theorem VS.dk {ks : List Key} {ds : List D} (ok : WOk w H) (h : VS w H (.dk ks ds) v) : ∃ a kvs, v = .ref a ∧ Rd H a (.dK kvs) ∧ kvs.map (·.1) = ks ∧ ks.all kOk = true ∧ DRs w.B w.G ds (kvs.map (·.2)) := h.now.dk ok
theorem VS.dt {ks : List (List Key)} {ds : List D} (ok : WOk w H) (h : VS w H (.dt ks ds) v) : ∃ a kvs, v = .ref a ∧ Rd H a (.dT kvs) ∧ kvs.map (·.1) = ks ∧ ks.all kOkT = true ∧ DRs w.B w.G ds (kvs.map (·.2)) := h.now.dt ok
theorem VS.obj {C : Addr} {ns : List Str} {ds : List D} (ok : WOk w H) (h : VS w H (.obj C ns ds) v) : ∃ a dx fs, v = .ref a ∧ H a = some (.ins C dx fs) ∧ fs.map (·.1) = ns ∧ DRs w.B w.G ds (fs.map (·.2)) := h.now.obj ok
theorem VS.flat {d : D} (h : VS w H d v) (f : d.flat = true) : DR w.B w.G d v := h.now.flat f
theorem VS.int {i : Int} (h : VS w H (.int i) v) : v = .int i := h.now.int
theorem VS.str {i : Str} (h : VS w H (.str i) v) : v = .str i := h.now.str
theorem VS.strOk {i : Str} (h : VS w H (.str i) v) : PyData.strOk i = true := h.now.strOk
theorem VS.bl {i : Bool} (h : VS w H (.bl i) v) : v = .bl i := h.now.bl
theorem VS.non (h : VS w H .non v) : v = .non := h.now.non
/-- the thing behind a cell, as it is now -/
def Mem.der (m : Mem) : D → D
  | .cel i => (match m.cs[i]? with
    | some (some o) => o.toD
    | _ => .cel i)
  | d => d
section
variable (m : Mem)
theorem der_cel {i : Nat} {o : O} (h : m.cs[i]? = some (some o)) : m.der (.cel i) = o.toD := by
  unfold Mem.der
  simp only [h]
end
theorem VR.der {d : D} (ok : WOk w H) (h : VR w H d v) : VR w H (w.n.der d) v := by
  cases d with
  | cel i =>
    cases q : w.n.cs[i]? with
    | none => unfold Mem.der; simp only [q]; exact h
    | some oo =>
      cases oo with
      | none => unfold Mem.der; simp only [q]; exact h
      | some o =>
        obtain ⟨a, e, ha⟩ := h.cel
        obtain ⟨nb, _, k⟩ := ok.cel i a ha
        obtain ⟨g, ho, e2, r⟩ := k o q
        rw [der_cel w.n q]
        exact .inr ⟨a, o, ho, e, rfl, g, e2, r⟩
  | _ => exact h
theorem VS.der {d : D} (ok : WOk w H) (h : VS w H d v) : VR w H (w.n.der d) v := h.now.der ok
theorem dr_int {B : Sh} {G : Hp} {i : Int} : DR B G (.int i) (.int i) := by unfold DR; rfl
theorem dr_str {B : Sh} {G : Hp} {i : Str} (h : PyData.strOk i = true) : DR B G (.str i) (.str i) := by unfold DR; exact ⟨rfl, h⟩
theorem dr_bl {B : Sh} {G : Hp} {i : Bool} : DR B G (.bl i) (.bl i) := by unfold DR; rfl
theorem dr_non {B : Sh} {G : Hp} : DR B G .non .non := by unfold DR; rfl
/-- a new list, public -/
theorem pub_lst {ds : List D} {xs : List V} {p : Addr} (ok : WOk w H) (hp : H p = none) (t : DRs w.B w.G ds xs) : ∃ w' d, Step w H w' (upd H p (.lst xs)) ∧ DR w'.B w'.G d (.ref p) ∧ d = .lst ds ∧ w'.n = w.n := by
  refine ⟨{ w with G := upd w.G p (.lst xs) }, .lst ds, ok.pub hp, ?_, rfl, rfl⟩
  unfold DR
  exact ⟨p, xs, rfl, upd_same, DRs.mono (Ex.new (ok.gh.none hp)) .refl _ _ t⟩
theorem pub_tup {ds : List D} {xs : List V} {p : Addr} (ok : WOk w H) (hp : H p = none) (t : DRs w.B w.G ds xs) : ∃ w' d, Step w H w' (upd H p (.tup xs)) ∧ DR w'.B w'.G d (.ref p) ∧ d = .tup ds ∧ w'.n = w.n := by
  refine ⟨{ w with G := upd w.G p (.tup xs) }, .tup ds, ok.pub hp, ?_, rfl, rfl⟩
  unfold DR
  exact ⟨p, xs, rfl, upd_same, DRs.mono (Ex.new (ok.gh.none hp)) .refl _ _ t⟩
/-- a new object, one's own -/
theorem priv_new {o : O} {ho : HO} {p : Addr} (ok : WOk w H) (hp : H p = none) (t : OR w.B w.G p o ho) : Step w H w (upd H p ho) ∧ NR H w (upd H p ho) o (.ref p) :=
  ⟨ok.priv hp t.noTup, ⟨p, ho, rfl, hp, ok.gh.none hp, ok.noB hp, upd_same, t⟩⟩
end
section
variable {X : Cx}
def dC (d : D) : TE3 := fun _ n Q => Q d n
def dVar (i : Nat) : TE3 := fun σ n Q => ∃ d, σ[i]? = some (some (S3.dat d)) ∧ Q d n
def S3.toD : S3 → D
  | .dat d => d
  | .own o => o.toD
def dView (i : Nat) : TE3 := fun σ n Q => ∃ s, σ[i]? = some (some s) ∧ Q (S3.toD s) n
theorem d_int {i : Int} {j pos} : DE X (.Constant (.int i) j pos) (dC (.int i)) := .of pe_int fun w _ _ _ _ H Q sr q => ⟨w, _, sr.ok.refl, dr_int, q⟩
theorem d_bl {b : Bool} {j pos} : DE X (.Constant (.bool b) j pos) (dC (.bl b)) := .of pe_bl fun w _ _ _ _ H Q sr q => ⟨w, _, sr.ok.refl, dr_bl, q⟩
theorem d_non {j pos} : DE X (.Constant .none j pos) (dC .non) := .of pe_non fun w _ _ _ _ H Q sr q => ⟨w, _, sr.ok.refl, dr_non, q⟩
theorem d_str {x} {j pos} (h : PyData.strOk x = true := by decide +kernel) : DE X (.Constant (.str x) j pos) (dC (.str x)) := .of pe_str fun w _ _ _ _ H Q sr q => ⟨w, _, sr.ok.refl, dr_str h, q⟩
theorem dv (i : Nat) {x : Str} {pos : Pos} (hN : X.N[i]? = some x := by rfl) (hv : Vis X.env.scope x := by first | exact Or.inl rfl | exact Or.inr (Or.inl rfl) | exact Or.inr (Or.inr rfl)) (hd : (x == ("__debug__" : Str)) = false := by decide)
    (hcd : (x == ("__classdict__" : Str)) = false := by decide) : DE X (.Name x pos) (dVar i) := .of (pe_var hN hv hd hcd) fun w w0 H0 σ3 σ H Q sr ⟨d, e, q⟩ => by
  obtain ⟨v, e1, r⟩ := sr.dat i d e
  exact ⟨v, e1, w, d, sr.ok.refl, r, q⟩
theorem vv (i : Nat) {x : Str} {pos : Pos} (hN : X.N[i]? = some x := by rfl) (hv : Vis X.env.scope x := by first | exact Or.inl rfl | exact Or.inr (Or.inl rfl) | exact Or.inr (Or.inr rfl)) (hd : (x == ("__debug__" : Str)) = false := by decide)
    (hcd : (x == ("__classdict__" : Str)) = false := by decide) : DV X (.Name x pos) (dView i) := .of (pe_var hN hv hd hcd) fun w w0 H0 σ3 σ H Q sr ⟨s, e, q⟩ => by
  cases s with
  | dat d =>
    obtain ⟨v, e1, r⟩ := sr.dat i d e
    exact ⟨v, e1, w, d, sr.ok.refl, .inl r, q⟩
  | own o =>
    obtain ⟨l, e1, ow⟩ := sr.own i o e
    obtain ⟨ho, e2, r⟩ := ow.at_
    exact ⟨_, e1, w, o.toD, sr.ok.refl, .inr ⟨l, o, ho, rfl, rfl, ow.g, ow.b, e2, r⟩, q⟩
end
section
variable {X : Cx}
def VSs (w : Wd) (H : Hp) : List D → List V → Prop
  | [], xs => xs = []
  | d :: ds, xs => ∃ v vs, xs = v :: vs ∧ VS w H d v ∧ VSs w H ds vs
theorem VSs.step {w w1 : Wd} {H H1 : Hp} (s : Step w H w1 H1) : ∀ {ds : List D} {vs : List V}, VSs w H ds vs → VSs w1 H1 ds vs
  | [], vs, h => h
  | d :: ds, vs, ⟨v, ws, e, r, t⟩ => ⟨v, ws, e, r.step s, VSs.step s t⟩
def VRs (w : Wd) (H : Hp) : List D → List V → Prop
  | [], xs => xs = []
  | d :: ds, xs => ∃ v vs, xs = v :: vs ∧ VR w H d v ∧ VRs w H ds vs
theorem VSs.now {w : Wd} {H : Hp} : ∀ {ds : List D} {vs : List V}, VSs w H ds vs → VRs w H ds vs
  | [], vs, e => e
  | d :: ds, vs, ⟨v, ws, e, r, t⟩ => ⟨v, ws, e, r.now, t.now⟩
def tavOf (X : Cx) (t : TA3) : TA := fun σ H Q2 => ∃ w w0, ∃ H0 : F0 (Wm X) w0, ∃ σ3 Q, SR w0 H0 w H σ3 σ ∧ t σ3 w.n Q ∧ ∀ ds vs w' H', Step w H w' H' → VSs w' H' ds vs → Q ds w'.n → Q2 vs H'
/-- arguments that are read -/
structure DAv (X : Cx) (es : List Expr) (t : TA3) : Prop where
  pa : PA X es (tavOf X t)
def dNil : TA3 := fun _ n Q => Q [] n
def dCons (t : TE3) (r : TA3) : TA3 := fun σ n Q => t σ n fun d n1 => r σ n1 fun ds n2 => Q (d :: ds) n2
theorem da_nil : DA X [] dNil := .of pa_nil fun w _ _ _ _ H Q sr q => ⟨w, [], sr.ok.refl, DRs.nil, q⟩
theorem da_cons {e : Expr} {es : List Expr} {t : TE3} {r : TA3} (h : DE X e t) (hr : DA X es r) (hs : starEach (e :: es) X.env = (false, eval e X.env) :: starEach es X.env := by rfl) : DA X (e :: es) (dCons t r) :=
  .of (pa_cons h.pe hr.pa hs) fun w w0 H0 σ3 σ H Q sr q => teOf.use sr q fun d v w1 H1 s1 r1 q1 => taOf.use (sr.step s1) q1 fun ds vs w2 H2 s2 r2 q2 => ⟨w2, d :: ds, s1.trans s2, DRs.cons (s2.dr r1) r2, q2⟩
theorem dav_nil : DAv X [] dNil := ⟨PA.imp pa_nil fun σ H Q2 ⟨w, w0, H0, σ3, Q, sr, q, k⟩ => k [] [] w H sr.ok.refl rfl q⟩
theorem dav_cons {e : Expr} {es : List Expr} {t : TE3} {r : TA3} (h : DV X e t) (hr : DAv X es r) (hs : starEach (e :: es) X.env = (false, eval e X.env) :: starEach es X.env := by rfl) : DAv X (e :: es) (dCons t r) :=
  ⟨PA.imp (pa_cons h.pe hr.pa hs) fun σ H Q2 ⟨w, w0, H0, σ3, Q, sr, q, k⟩ => tvOf.use sr q fun d v w1 H1 s1 r1 q1 => ⟨w1, w0, H0, σ3, _, sr.step s1, q1, fun ds vs w2 H2 s2 r2 q2 => k (d :: ds) (v :: vs) w2 H2 (s1.trans s2) ⟨v, vs, rfl, r1.step s2, r2⟩ q2⟩⟩
end
abbrev R23 := D → D → Mem → K3 → Prop
def dOp (r : R23) (ta tb : TE3) : TE3 := fun σ n Q => ta σ n fun x n1 => tb σ n1 fun y n2 => r x y n2 Q
def OpI (r : R2) (r3 : R23) : Prop := ∀ (w : Wd) (H : Hp) (x y : V) (dx dy : D) (Q : K3), WOk w H → VR w H dx x → VR w H dy y → r3 dx dy w.n Q → r x y H fun v H' => ∃ w' d, Step w H w' H' ∧ DR w'.B w'.G d v ∧ Q d w'.n
structure OpD (X : Cx) (f : Value → Value → Sem Value) (r3 : R23) : Prop where
  ex : ∃ r, OpR X f r ∧ OpI r r3
/-- by what stands behind cells now -/
def rDer (r : R23) : R23 := fun x y n Q => r (n.der x) (n.der y) n Q
theorem OpI.der {r : R2} {r3 : R23} (i : OpI r r3) : OpI r (rDer r3) := fun w H x y dx dy Q ok rx ry h => i w H x y _ _ Q ok (rx.der ok) (ry.der ok) h
theorem OpD.der {X : Cx} {f : Value → Value → Sem Value} {r3 : R23} (h : OpD X f r3) : OpD X f (rDer r3) := let ⟨r, hr, i⟩ := h.ex; ⟨r, hr, i.der⟩
def dTest (t : TE3) : TT3 := fun σ n Q => t σ n fun d n1 => ∃ b, d = .bl b ∧ Q b n1
section
variable {X : Cx} {a b c : Expr} {ta tb tc : TE3} {pos : Pos}
theorem d_op {op : Operator} {r3 : R23} (ho : OpD X (binaryOp op) r3) (ha : DV X a ta) (hb : DV X b tb) : DE X (.BinOp a op b pos) (dOp r3 ta tb) := by
  obtain ⟨r, hr, i⟩ := ho.ex
  refine .of (pe_op (r := fun x y H Q => ∃ Q', (∀ v H', Q' v H' → Q v H') ∧ r x y H Q') (fun pins s σ H x y v u Q I rx ry ⟨Q', hq, h⟩ => thn (hr pins s σ H x y v u Q' I rx ry h) fun z s' ⟨v', H', I', r', q'⟩ => ⟨v', H', I', r', hq _ _ q'⟩) ha.pe hb.pe) fun w w0 H0 σ3 σ H Q sr h => ?_
  exact tvOf.use sr h fun dx x w1 H1 s1 r1 q1 => tvOf.use (sr.step s1) q1 fun dy y w2 H2 s2 r2 q2 => ⟨_, fun v H' ⟨w', d, s3, dr, q⟩ => ⟨w', d, (s1.trans s2).trans s3, dr, q⟩, i w2 H2 x y dx dy _ (s2.ok) (r1.step s2) r2 q2⟩
theorem opr_more {f : Value → Value → Sem Value} {r : R2} (hr : OpR X f r) : OpR X f (fun x y H Q => ∃ Q', (∀ v H', Q' v H' → Q v H') ∧ r x y H Q') :=
  fun pins s σ H x y v u Q I rx ry ⟨Q', hq, h⟩ => thn (hr pins s σ H x y v u Q' I rx ry h) fun z s' ⟨v', H', I', r', q'⟩ => ⟨v', H', I', r', hq _ _ q'⟩
theorem d_cmp {op : CmpOp} {r3 : R23} (ho : OpD X (compareOp op) r3) (ha : DV X a ta) (hb : DV X b tb) (hm : behindInMarks op b = false) : DE X (.Compare a [op] [b] pos) (dOp r3 ta tb) := by
  obtain ⟨r, hr, i⟩ := ho.ex
  refine .of (pe_cmpR (opr_more hr) ha.pe hb.pe hm) fun w w0 H0 σ3 σ H Q sr h => ?_
  exact tvOf.use sr h fun dx x w1 H1 s1 r1 q1 => tvOf.use (sr.step s1) q1 fun dy y w2 H2 s2 r2 q2 => ⟨_, fun v H' ⟨w', d, s3, dr, q⟩ => ⟨w', d, (s1.trans s2).trans s3, dr, q⟩, i w2 H2 x y dx dy _ (s2.ok) (r1.step s2) r2 q2⟩
theorem dt_cmp {op : CmpOp} {r3 : R23} (ho : OpD X (compareOp op) r3) (ha : DV X a ta) (hb : DV X b tb) (hm : behindInMarks op b = false) : DT X (.Compare a [op] [b] pos) (dTest (dOp r3 ta tb)) := by
  obtain ⟨r, hr, i⟩ := ho.ex
  refine .of (pt_cmpR (opr_more hr) ha.pe hb.pe hm) fun w w0 H0 σ3 σ H Q sr h => ?_
  exact tvOf.use sr h fun dx x w1 H1 s1 r1 q1 => tvOf.use (sr.step s1) q1 fun dy y w2 H2 s2 r2 q2 => ⟨_, fun v H' ⟨w', d, s3, dr, q⟩ => (by
    obtain ⟨b, e, q⟩ := q
    subst e
    unfold DR at dr
    exact ⟨b, dr, w', (s1.trans s2).trans s3, q⟩), i w2 H2 x y dx dy _ (s2.ok) (r1.step s2) r2 q2⟩
end
section
variable {X : Cx} {a b c e : Expr} {rest : List Expr} {pos : Pos} {t u : TT3}
def dOr (t u : TT3) : TT3 := fun σ n Q => t σ n fun c n1 => if c = true then Q true n1 else u σ n1 Q
def dNot (t : TT3) : TT3 := fun σ n Q => t σ n fun c n1 => Q (!c) n1
theorem dt_val {te : TE3} (h : DE X e te) (he : ∀ whole, isTrue e X.env whole = (do let v ← whole; standAt e.pos; holding [v] (truthy v)) := by intro _; rfl) : DT X e (dTest te) :=
  .of (pt_val h.pe he) fun w w0 H0 σ3 σ H Q sr q => teOf.use sr q fun d v w' H' st dr ⟨b, eb, q'⟩ => by
    subst eb
    unfold DR at dr
    exact ⟨b, dr, w', st, q'⟩
theorem dw_or1 (h : DT X a t) : DW X (.BoolOp .Or [a] pos) t := ⟨pw_or1 h.pt⟩
theorem dw_or (ha : DT X a t) (hb : DW X (.BoolOp .Or (b :: rest) pos) u) : DW X (.BoolOp .Or (a :: b :: rest) pos) (dOr t u) :=
  .of (pw_or ha.pt hb.pw) fun w w0 H0 σ3 σ H Q sr q => ttOf.use sr q fun c w1 H1 s1 q1 => by
    cases c with
    | true =>
      rw [if_pos rfl] at q1 ⊢
      exact ⟨w1, s1, q1⟩
    | false =>
      rw [if_neg Bool.false_ne_true] at q1 ⊢
      exact ttOf.use (sr.step s1) q1 fun c w2 H2 s2 q2 => ⟨w2, s1.trans s2, q2⟩
theorem dt_w (h : DW X e t) : DT X e t := ⟨h.pw.pt⟩
theorem dt_not (h : DT X a t) : DT X (.UnaryOp .Not a pos) (dNot t) :=
  .of (pt_not h.pt) fun w w0 H0 σ3 σ H Q sr q => ttOf.use sr q fun c w1 H1 s1 q1 => ⟨w1, s1, q1⟩
/-- as values (truths) -/
def dAndV (ta tb : TE3) : TE3 := fun σ n Q => ta σ n fun d n1 => ∃ c, d = .bl c ∧ if c = true then tb σ n1 Q else Q (.bl false) n1
variable {ta tb : TE3}
theorem d_one {op} (h : DE X a ta) : DE X (.BoolOp op [a] pos) ta := ⟨pe_one h.pe⟩
theorem d_and (ha : DE X a ta) (hb : DE X (.BoolOp .And (b :: rest) pos) tb) : DE X (.BoolOp .And (a :: b :: rest) pos) (dAndV ta tb) :=
  .of (pe_and ha.pe hb.pe) fun w w0 H0 σ3 σ H Q sr q => teOf.use sr q fun d v w1 H1 s1 r1 ⟨c, e, q1⟩ => by
    subst e
    unfold DR at r1
    refine ⟨c, r1, ?_⟩
    cases c with
    | true =>
      rw [if_pos rfl] at q1 ⊢
      exact teOf.use (sr.step s1) q1 fun d v w2 H2 s2 r2 q2 => ⟨w2, d, s1.trans s2, r2, q2⟩
    | false =>
      rw [if_neg Bool.false_ne_true] at q1 ⊢
      exact ⟨w1, _, s1, dr_bl, q1⟩
def dIfE (t : TT3) (ta tb : TE3) : TE3 := fun σ n Q => t σ n fun c n1 => if c = true then ta σ n1 Q else tb σ n1 Q
theorem d_ifE (hc : DT X c t) (ha : DE X a ta) (hb : DE X b tb) : DE X (.IfExp c a b pos) (dIfE t ta tb) :=
  .of (pe_ifExp hc.pt ha.pe hb.pe) fun w w0 H0 σ3 σ H Q sr q => ttOf.use sr q fun c w1 H1 s1 q1 => by
    cases c with
    | true =>
      rw [if_pos rfl] at q1 ⊢
      exact teOf.use (sr.step s1) q1 fun d v w2 H2 s2 r2 q2 => ⟨w2, d, s1.trans s2, r2, q2⟩
    | false =>
      rw [if_neg Bool.false_ne_true] at q1 ⊢
      exact teOf.use (sr.step s1) q1 fun d v w2 H2 s2 r2 q2 => ⟨w2, d, s1.trans s2, r2, q2⟩
end
end L3
set_option Elab.async false
set_option linter.all false
set_option maxRecDepth 100000
set_option maxHeartbeats 1000000
namespace L3
open PySem PySem.Spec PyProof.Rows L2
variable [XCt]
mutual
def D.py : D → PyData
  | .bl b => .bool b
  | .int i => .int i
  | .str x => .str x
  | .lst ds => .list (D.pyAll ds)
  | .tup ds => .tuple (D.pyAll ds)
  | _ => .none
def D.pyAll : List D → List PyData
  | [] => []
  | d :: ds => D.py d :: D.pyAll ds
end
mutual
def D.plain : D → Bool
  | .non => true
  | .bl _ => true
  | .int _ => true
  | .str _ => true
  | .lst ds => D.plainAll ds
  | .tup ds => D.plainAll ds
  | _ => false
def D.plainAll : List D → Bool
  | [] => true
  | d :: ds => D.plain d && D.plainAll ds
end
theorem D.pyAll_map : ∀ ds : List D, D.pyAll ds = ds.map D.py
  | [] => by unfold D.pyAll; rfl
  | d :: ds => by unfold D.pyAll; rw [D.pyAll_map ds]; rfl
section
variable {K : PySem.W.Frag} {B : Sh} {G H : Hp}
mutual
theorem DR.dp (g : Ex G H) : ∀ (d : D) (v : V), DR B G d v → d.plain = true → Dp K H v d.py ∧ d.py.canLay0 = true
  | .non, v, h, _ => by unfold DR at h; subst h; unfold D.py; exact ⟨.non, rfl⟩
  | .bl b, v, h, _ => by unfold DR at h; subst h; unfold D.py; exact ⟨.bl b, rfl⟩
  | .int i, v, h, _ => by unfold DR at h; subst h; unfold D.py; exact ⟨.int i, rfl⟩
  | .str x, v, h, _ => by unfold DR at h; obtain ⟨e, q⟩ := h; subst e; unfold D.py; exact ⟨.str x, q⟩
  | .lst ds, v, h, p => by
    unfold DR at h
    obtain ⟨a, xs, e, q, t⟩ := h
    subst e
    unfold D.plain at p
    obtain ⟨z1, z2⟩ := DRs.dp g ds xs t p
    unfold D.py
    exact ⟨.lst (SqL.of (g _ _ q)) z1, z2⟩
  | .tup ds, v, h, p => by
    unfold DR at h
    obtain ⟨a, xs, e, q, t⟩ := h
    subst e
    unfold D.plain at p
    obtain ⟨z1, z2⟩ := DRs.dp g ds xs t p
    unfold D.py
    exact ⟨.tup (SqT.of (g _ _ q)) z1, z2⟩
  | .dk ks ds, v, h, p => by unfold D.plain at p; cases p
  | .dt ks ds, v, h, p => by unfold D.plain at p; cases p
  | .obj C ks ds, v, h, p => by unfold D.plain at p; cases p
  | .box, v, h, p => by unfold D.plain at p; cases p
  | .raw w, v, h, p => by unfold D.plain at p; cases p
  | .scr _ _, v, h, p => by unfold D.plain at p; cases p
  | .exn _ _ _ _ _, v, h, p => by unfold D.plain at p; cases p
  | .exd _ _ _ _, v, h, p => by unfold D.plain at p; cases p
theorem DRs.dp (g : Ex G H) : ∀ (ds : List D) (vs : List V), DRs B G ds vs → D.plainAll ds = true → DpAll K H vs (D.pyAll ds) ∧ PyData.canLayAll0 (D.pyAll ds) = true
  | [], vs, h, _ => by rw [h.nil_inv]; unfold D.pyAll; exact ⟨.nil, rfl⟩
  | d :: ds, vs, h, p => by
    obtain ⟨v, ws, rfl, r, t⟩ := h.cons_inv
    unfold D.plainAll at p
    obtain ⟨p1, p2⟩ := Bool.and_eq_true_iff.mp p
    obtain ⟨a1, a2⟩ := DR.dp g d v r p1
    obtain ⟨b1, b2⟩ := DRs.dp g ds ws t p2
    unfold D.pyAll
    exact ⟨.cons a1 b1, by rw [PyData.canLayAll0, a2, b2]; rfl⟩
end
theorem VR.dp {w : Wd} {d : D} {v : V} (ok : WOk w H) (h : VR w H d v) (p : d.plain = true) : Dp K H v d.py ∧ d.py.canLay0 = true := by
  cases d with
  | lst ds =>
    obtain ⟨a, xs, e, q, t⟩ := h.lst ok
    subst e
    unfold D.plain at p
    obtain ⟨z1, z2⟩ := DRs.dp (K := K) ok.gh ds xs t p
    unfold D.py
    exact ⟨.lst (SqL.of q) z1, z2⟩
  | dk ks ds => unfold D.plain at p; cases p
  | dt ks ds => unfold D.plain at p; cases p
  | obj C ks ds => unfold D.plain at p; cases p
  | cel i => unfold D.plain at p; cases p
  | non => exact DR.dp ok.gh _ _ (h.flat rfl) p
  | bl b => exact DR.dp ok.gh _ _ (h.flat rfl) p
  | int i => exact DR.dp ok.gh _ _ (h.flat rfl) p
  | str x => exact DR.dp ok.gh _ _ (h.flat rfl) p
  | tup ds => exact DR.dp ok.gh _ _ (h.flat rfl) p
  | box => unfold D.plain at p; cases p
  | raw w => unfold D.plain at p; cases p
  | scr _ _ => unfold D.plain at p; cases p
  | exn _ _ _ _ _ => unfold D.plain at p; cases p
  | exd _ _ _ _ => unfold D.plain at p; cases p
end
def D.dep (d : D) : Nat := d.py.depth
def D.eqv (d e : D) : Bool := PyData.eqv d.py e.py
/-- data that may be compared: no dicts, no objects, not too deep -/
def D.cmp (d : D) : Prop := d.plain = true ∧ d.dep ≤ 64
theorem D.cmp.shaped {d : D} (h : d.cmp) (q : d.py.canLay0 = true) : SeqAt.shaped d.py = true := by
  unfold SeqAt.shaped
  rw [q, decide_eq_true (show d.py.depth ≤ 64 from h.2)]; rfl
theorem sok_append {a b : Str} (ha : PyData.strOk a = true) (hb : PyData.strOk b = true) : PyData.strOk (a ++ b) = true := by
  unfold PyData.strOk at *
  have e : (a ++ b).cps = a.cps ++ b.cps := rfl
  rw [e, ← Array.all_toList, Array.toList_append, List.all_append, Array.all_toList, Array.all_toList, ha, hb]; rfl
theorem sok_iff {a : Str} : PyData.strOk a = true ↔ ∀ c ∈ a.cps.toList, c < 0x110000 := by
  unfold PyData.strOk
  rw [← Array.all_toList, List.all_eq_true]
  exact ⟨fun h c hc => of_decide_eq_true (h c hc), fun h c hc => decide_eq_true (h c hc)⟩
theorem atI_mem {α : Type} {xs : List α} {i : Int} {c : α} (h : atI xs i = some c) : c ∈ xs := by
  unfold atI at h
  cases e : ixN xs.length i with
  | none => rw [e] at h; cases h
  | some j =>
    rw [e] at h
    exact List.mem_of_getElem? h
theorem sok_sign {a : Str} {i : Int} {c : Nat} (ha : PyData.strOk a = true) (h : atI a.cps.toList i = some c) : PyData.strOk ⟨#[c]⟩ = true := by
  rw [sok_iff] at *
  intro d hd
  have e : d = c := by simpa using hd
  rw [e]
  exact ha c (atI_mem h)
def rAdd3 : R23 := fun x y n Q => match x, y with
  | .int i, .int j => Q (.int (i + j)) n
  | .str a, .str b => a.length + b.length ≤ sizeLine ∧ Q (.str (a ++ b)) n
  | .lst xs, .lst ys => xs.length + ys.length ≤ sizeLine ∧ Q (.lst (xs ++ ys)) n
  | .tup xs, .tup ys => xs.length + ys.length ≤ sizeLine ∧ Q (.tup (xs ++ ys)) n
  | _, _ => False
def rSub3 : R23 := fun x y n Q => match x, y with
  | .int i, .int j => Q (.int (i - j)) n
  | _, _ => False
def rMul3 : R23 := fun x y n Q => match x, y with
  | .int i, .int j => CMul i j ∧ Q (.int (i * j)) n
  | _, _ => False
def rMod3 : R23 := fun x y n Q => match x, y with
  | .int i, .int j => 0 < j ∧ Q (.int (i % j)) n
  | _, _ => False
def rDiv3 : R23 := fun x y n Q => match x, y with
  | .int i, .int j => (0 < j ∧ j.natAbs < 2 ^ 128) ∧ Q (.int (i / j)) n
  | _, _ => False
def rPow3 : R23 := fun x y n Q => match x, y with
  | .int i, .int j => CPow i j ∧ Q (.int (i ^ j.toNat)) n
  | _, _ => False
def rCmp3 (p : Int → Int → Bool) : R23 := fun x y n Q => match x, y with
  | .int i, .int j => Q (.bl (p i j)) n
  | _, _ => False
def rEq3 (neg : Bool) : R23 := fun x y n Q => x.cmp ∧ y.cmp ∧ Q (.bl (if neg then !D.eqv x y else D.eqv x y)) n
def rIs3 (neg : Bool) : R23 := fun x y n Q => match y with
  | .non => (match x with
    | .non => Q (.bl (!neg)) n
    | .box => False
    | .raw _ => False
    | .scr _ _ => False
    | _ => Q (.bl neg) n)
  | .bl b => (match x with
    | .bl a => Q (.bl (if neg then !decide (a = b) else decide (a = b))) n
    | _ => False)
  | _ => False
def D.isFlat : D → Bool
  | .non => true
  | .bl _ => true
  | .int _ => true
  | .str _ => true
  | _ => false
def rIn3 (neg : Bool) : R23 := fun x y n Q => match y with
  | .str z => (match x with
    | .str c => ∃ k, c = ⟨#[k]⟩ ∧ Q (.bl (if neg then !decide (k ∈ z.cps.toList) else decide (k ∈ z.cps.toList))) n
    | _ => False)
  | .lst ds => x.cmp ∧ (D.lst ds).cmp ∧ Q (.bl (if neg then !ds.any (fun z => D.eqv z x) else ds.any (fun z => D.eqv z x))) n
  | .tup ds => x.isFlat = true ∧ ds.all D.isFlat = true ∧ Q (.bl (if neg then !ds.any (fun z => D.eqv z x) else ds.any (fun z => D.eqv z x))) n
  | _ => False
section
variable {X : Cx}
theorem OpI.int2 {C : Int → Int → Prop} {g : Int → Int → V} {g3 : Int → Int → D} {r3 : R23} (hg : ∀ (B : Sh) (G : Hp) i j, DR B G (g3 i j) (g i j)) (h3 : ∀ dx dy n Q, r3 dx dy n Q → ∃ i j, dx = .int i ∧ dy = .int j ∧ C i j ∧ Q (g3 i j) n) : OpI (rI C g) r3 := by
  intro w H x y dx dy Q ok rx ry h
  obtain ⟨i, j, e1, e2, c, q⟩ := h3 _ _ _ _ h
  subst e1; subst e2
  exact ⟨i, j, rx.int, ry.int, c, w, _, ok.refl, hg _ _ i j, q⟩
theorem OpI.int0 {g : Int → Int → V} {g3 : Int → Int → D} {r3 : R23} (hg : ∀ (B : Sh) (G : Hp) i j, DR B G (g3 i j) (g i j)) (h3 : ∀ dx dy n Q, r3 dx dy n Q → ∃ i j, dx = .int i ∧ dy = .int j ∧ Q (g3 i j) n) : OpI (rI0 g) r3 := by
  intro w H x y dx dy Q ok rx ry h
  obtain ⟨i, j, e1, e2, q⟩ := h3 _ _ _ _ h
  subst e1; subst e2
  exact ⟨i, j, rx.int, ry.int, w, _, ok.refl, hg _ _ i j, q⟩
theorem od_add : OpD X (binaryOp .Add) rAdd3 := by
  refine ⟨_, (op_add.or op_add_str).or (op_cat.or op_catA), ?_⟩
  intro w H x y dx dy Q ok rx ry h
  unfold rAdd3 at h
  split at h
  · exact .inl (.inl ⟨_, _, rx.int, ry.int, w, _, ok.refl, dr_int, h⟩)
  · exact .inl (.inr ⟨_, _, rx.str, ry.str, h.1, w, _, ok.refl, dr_str (sok_append rx.strOk ry.strOk), h.2⟩)
  · obtain ⟨a, xs, e1, h1, t1⟩ := rx.lst ok
    obtain ⟨b, ys, e2, h2, t2⟩ := ry.lst ok
    refine .inr (.inl ⟨a, b, xs, ys, e1, e2, h1, h2, by rw [← t1.length, ← t2.length]; exact h.1, fun p hp => ?_⟩)
    obtain ⟨w', d, st, dr, ed, en⟩ := pub_lst ok hp (t1.append t2)
    exact ⟨w', d, st, dr, by rw [ed, en]; exact h.2⟩
  · obtain ⟨a, xs, e1, g1, h1, t1⟩ := rx.tup ok
    obtain ⟨b, ys, e2, g2, h2, t2⟩ := ry.tup ok
    refine .inr (.inr ⟨a, b, xs, ys, e1, e2, SqT.of h1, SqT.of h2, by rw [← t1.length, ← t2.length]; exact h.1, fun e => ?_, fun _ e => ?_, fun _ _ p hp => ?_⟩)
    · subst e
      have z := t1.length
      have z' := List.length_eq_zero_iff.mp z
      rw [z', List.nil_append] at h
      exact ⟨w, _, ok.refl, by unfold DR; exact ⟨b, ys, rfl, g2, t2⟩, h.2⟩
    · subst e
      have z := t2.length
      have z' := List.length_eq_zero_iff.mp z
      rw [z', List.append_nil] at h
      exact ⟨w, _, ok.refl, by unfold DR; exact ⟨a, xs, rfl, g1, t1⟩, h.2⟩
    · obtain ⟨w', d, st, dr, ed, en⟩ := pub_tup ok hp (t1.append t2)
      exact ⟨w', d, st, dr, by rw [ed, en]; exact h.2⟩
  · exact h.elim
theorem od_sub : OpD X (binaryOp .Sub) rSub3 := ⟨_, op_sub, .int0 (g3 := fun i j => .int (i - j)) (fun _ _ _ _ => dr_int) fun dx dy n Q h => by
  unfold rSub3 at h
  split at h
  · exact ⟨_, _, rfl, rfl, h⟩
  · exact h.elim⟩
theorem od_mul : OpD X (binaryOp .Mult) rMul3 := ⟨_, op_mul, .int2 (g3 := fun i j => .int (i * j)) (fun _ _ _ _ => dr_int) fun dx dy n Q h => by
  unfold rMul3 at h
  split at h
  · exact ⟨_, _, rfl, rfl, h⟩
  · exact h.elim⟩
theorem od_mod : OpD X (binaryOp .Mod) rMod3 := ⟨_, op_mod, .int2 (g3 := fun i j => .int (i % j)) (fun _ _ _ _ => dr_int) fun dx dy n Q h => by
  unfold rMod3 at h
  split at h
  · exact ⟨_, _, rfl, rfl, h⟩
  · exact h.elim⟩
theorem od_div : OpD X (binaryOp .FloorDiv) rDiv3 := ⟨_, op_fdivW, .int2 (g3 := fun i j => .int (i / j)) (fun _ _ _ _ => dr_int) fun dx dy n Q h => by
  unfold rDiv3 at h
  split at h
  · exact ⟨_, _, rfl, rfl, wide_div h.1.1 h.1.2 (by decide) (by decide), h.2⟩
  · exact h.elim⟩
theorem od_pow : OpD X (binaryOp .Pow) rPow3 := ⟨_, op_pow, .int2 (g3 := fun i j => .int (i ^ j.toNat)) (fun _ _ _ _ => dr_int) fun dx dy n Q h => by
  unfold rPow3 at h
  split at h
  · exact ⟨_, _, rfl, rfl, h⟩
  · exact h.elim⟩
theorem rcmp_inv {p : Int → Int → Bool} (dx dy : D) (n : Mem) (Q : K3) (h : rCmp3 p dx dy n Q) : ∃ i j, dx = .int i ∧ dy = .int j ∧ Q (.bl (p i j)) n := by
  unfold rCmp3 at h
  split at h
  · exact ⟨_, _, rfl, rfl, h⟩
  · exact h.elim
theorem od_lt : OpD X (compareOp .Lt) (rCmp3 fun i j => decide (i < j)) := ⟨_, op_lt, .int0 (g3 := fun i j => .bl (decide (i < j))) (fun _ _ _ _ => dr_bl) rcmp_inv⟩
theorem od_gt : OpD X (compareOp .Gt) (rCmp3 fun i j => decide (j < i)) := ⟨_, op_gt, .int0 (g3 := fun i j => .bl (decide (j < i))) (fun _ _ _ _ => dr_bl) rcmp_inv⟩
theorem od_eq (hu : X.A.units + 64 < cLine) : OpD X (compareOp .Eq) (rEq3 false) := by
  refine ⟨_, op_eqD hu, ?_⟩
  intro w H x y dx dy Q ok rx ry h
  obtain ⟨c1, c2, q⟩ := h
  obtain ⟨p1, l1⟩ := rx.dp (K := X.K) ok c1.1
  obtain ⟨p2, l2⟩ := ry.dp (K := X.K) ok c2.1
  exact ⟨_, _, p1, p2, c1.shaped l1, c2.shaped l2, w, _, ok.refl, dr_bl, q⟩
theorem od_ne (hu : X.A.units + 64 < cLine) : OpD X (compareOp .NotEq) (rEq3 true) := by
  refine ⟨_, op_neD hu, ?_⟩
  intro w H x y dx dy Q ok rx ry h
  obtain ⟨c1, c2, q⟩ := h
  obtain ⟨p1, l1⟩ := rx.dp (K := X.K) ok c1.1
  obtain ⟨p2, l2⟩ := ry.dp (K := X.K) ok c2.1
  exact ⟨_, _, p1, p2, c1.shaped l1, c2.shaped l2, w, _, ok.refl, dr_bl, q⟩
theorem flat_v {w : Wd} {H : Hp} {d : D} {x : V} (h : VR w H d x) (f : d.isFlat = true) : flatV x = true := by
  cases d with
  | non => rw [h.non]; rfl
  | bl b => rw [h.bl]; rfl
  | int b => rw [h.int]; rfl
  | str b => rw [h.str]; rfl
  | _ => cases f
theorem flat_eq {w : Wd} {H : Hp} {d e : D} {x y : V} (h : VR w H d x) (h' : VR w H e y) (f : d.isFlat = true) (f' : e.isFlat = true) : eqV y x = D.eqv e d := by
  have fl : ∀ {d : D} {x : V}, VR w H d x → d.isFlat = true → (d = .non ∧ x = .non) ∨ (∃ b, d = .bl b ∧ x = .bl b) ∨ (∃ b, d = .int b ∧ x = .int b) ∨ (∃ b, d = .str b ∧ x = .str b) := fun {d x} h f => by
    cases d with
    | non => exact .inl ⟨rfl, h.non⟩
    | bl b => exact .inr (.inl ⟨b, rfl, h.bl⟩)
    | int b => exact .inr (.inr (.inl ⟨b, rfl, h.int⟩))
    | str b => exact .inr (.inr (.inr ⟨b, rfl, h.str⟩))
    | _ => cases f
  rcases fl h f with ⟨e1, e2⟩ | ⟨b, e1, e2⟩ | ⟨b, e1, e2⟩ | ⟨b, e1, e2⟩ <;> rcases fl h' f' with ⟨e3, e4⟩ | ⟨c, e3, e4⟩ | ⟨c, e3, e4⟩ | ⟨c, e3, e4⟩ <;> subst e1 e2 e3 e4 <;> rfl
end
end L3
set_option Elab.async false
set_option linter.all false
set_option maxRecDepth 100000
set_option maxHeartbeats 1000000
namespace L3
open PySem PySem.Spec PyProof.Rows L2
variable [XCt]
section
variable {X : Cx}
theorem DRs.any_flat {w : Wd} {H : Hp} {dx : D} {x : V} (ok : WOk w H) (rx : VR w H dx x) (fx : dx.isFlat = true) : ∀ {ds : List D} {xs : List V}, DRs w.B w.G ds xs → ds.all D.isFlat = true →
    xs.all flatV = true ∧ inV x xs = ds.any (fun z => D.eqv z dx)
  | [], xs, h, _ => by rw [h.nil_inv]; exact ⟨rfl, rfl⟩
  | d :: ds, xs, h, f => by
    obtain ⟨v, ws, rfl, r, t⟩ := h.cons_inv
    rw [List.all_cons] at f
    obtain ⟨f1, f2⟩ := Bool.and_eq_true_iff.mp f
    obtain ⟨a, b⟩ := DRs.any_flat ok rx fx t f2
    have fv := flat_v (.inl r : VR w H d v) f1
    refine ⟨by rw [List.all_cons, fv, a]; rfl, ?_⟩
    show (eqV v x || inV x ws) = _
    rw [b, List.any_cons, flat_eq rx (.inl r) fx f1]
theorem rin_case {neg : Bool} (hu : X.A.units + 65 < cLine) {r1 : R2} {r2 : R2} {r4 : R2} (e1 : r1 = fun x y H Q => ∃ (c : Nat) (z : Str), x = .str ⟨#[c]⟩ ∧ y = .str z ∧ Q (.bl (if neg then !decide (c ∈ z.cps.toList) else decide (c ∈ z.cps.toList))) H)
    (e2 : r2 = fun x y H Q => ∃ d ds, Dp X.K H x d ∧ Dp X.K H y (.list ds) ∧ SeqAt.shaped d = true ∧ SeqAt.shaped (.list ds) = true ∧ Q (.bl (if neg then !ds.any fun z => PyData.eqv z d else ds.any fun z => PyData.eqv z d)) H)
    (e4 : r4 = rIn X.K neg) : OpI (fun x y H Q => r1 x y H Q ∨ (r2 x y H Q ∨ r4 x y H Q)) (rIn3 neg) := by
  subst e1 e2 e4
  intro w H x y dx dy Q ok rx ry h
  unfold rIn3 at h
  split at h
  · split at h
    · obtain ⟨k, e, q⟩ := h
      subst e
      exact .inl ⟨k, _, rx.str, ry.str, w, _, ok.refl, dr_bl, q⟩
    · exact h.elim
  · obtain ⟨c1, c2, q⟩ := h
    obtain ⟨p1, l1⟩ := rx.dp (K := X.K) ok c1.1
    obtain ⟨p2, l2⟩ := ry.dp (K := X.K) ok c2.1
    rename_i ds
    have e : (D.lst ds).py = .list (ds.map D.py) := by unfold D.py; rw [D.pyAll_map]
    rw [e] at p2
    have e3 : ((ds.map D.py).any fun z => PyData.eqv z dx.py) = ds.any fun z => D.eqv z dx := by rw [List.any_map]; rfl
    have s2 := c2.shaped l2
    rw [e] at s2
    refine .inr (.inl ⟨_, _, p1, p2, c1.shaped l1, s2, w, _, ok.refl, dr_bl, ?_⟩)
    rw [e3]
    exact q
  · obtain ⟨f1, f2, q⟩ := h
    obtain ⟨a, xs, e, _, hh, t⟩ := ry.tup ok
    obtain ⟨g1, g2⟩ := DRs.any_flat ok rx f1 t f2
    refine .inr (.inr ⟨a, xs, e, .inr (SqT.of hh), flat_v rx f1, g1, w, _, ok.refl, dr_bl, ?_⟩)
    rw [g2]
    exact q
  · exact h.elim
theorem od_in (hu : X.A.units + 65 < cLine) : OpD X (compareOp .In) (rIn3 false) := by
  refine ⟨_, op_in_sign.or ((op_inD hu).or op_in_seq), rin_case (neg := false) hu ?_ ?_ rfl⟩
  · funext x y H Q; simp only [Bool.false_eq_true, if_false]
  · funext x y H Q; unfold rInD; simp only [Bool.false_eq_true, if_false]
theorem od_notin (hu : X.A.units + 65 < cLine) : OpD X (compareOp .NotIn) (rIn3 true) := by
  refine ⟨_, op_notIn_sign.or ((op_notInD hu).or op_notIn_seq), rin_case (neg := true) hu ?_ ?_ rfl⟩
  · funext x y H Q; simp only [if_true]
  · funext x y H Q; unfold rNotInD; simp only [if_true]
def rIx3 : R23 := fun x y n Q => match x, y with
  | .lst ds, .int i => ∃ d, atI ds i = some d ∧ Q d n
  | .tup ds, .int i => ∃ d, atI ds i = some d ∧ Q d n
  | .str z, .int i => z.length ≤ sizeLine ∧ ∃ c, atI z.cps.toList i = some c ∧ Q (.str ⟨#[c]⟩) n
  | _, _ => False
theorem DRs.at_ {w : Wd} {ds : List D} {xs : List V} {i : Int} {d : D} (t : DRs w.B w.G ds xs) (h : atI ds i = some d) : ∃ v, atI xs i = some v ∧ DR w.B w.G d v := by
  unfold atI at *
  rw [← t.length]
  cases e : ixN ds.length i with
  | none => rw [e] at h; cases h
  | some j =>
    rw [e] at h
    obtain ⟨v, e1, r⟩ := t.get (show ds[j]? = some d from h)
    exact ⟨v, e1, r⟩
theorem ixi : OpI (rIx X.K) rIx3 := by
  intro w H x y dx dy Q ok rx ry h
  unfold rIx3 at h
  split at h
  · obtain ⟨d, e, q⟩ := h
    obtain ⟨a, xs, e1, hh, t⟩ := rx.lst ok
    obtain ⟨v, e2, r⟩ := t.at_ e
    exact .inl ⟨a, xs, _, v, e1, ry.int, SqL.of hh, e2, w, d, ok.refl, r, q⟩
  · obtain ⟨d, e, q⟩ := h
    obtain ⟨a, xs, e1, _, hh, t⟩ := rx.tup ok
    obtain ⟨v, e2, r⟩ := t.at_ e
    exact .inr (.inl ⟨a, xs, _, v, e1, ry.int, SqT.of hh, e2, w, d, ok.refl, r, q⟩)
  · obtain ⟨hz, c, e, q⟩ := h
    exact .inr (.inr ⟨_, _, c, rx.str, ry.int, hz, e, w, _, ok.refl, dr_str (sok_sign rx.strOk e), q⟩)
  · exact h.elim
theorem ixr_more {r : R2} (hr : IxR X r) : IxR X (fun x y H Q => ∃ Q', (∀ v H', Q' v H' → Q v H') ∧ r x y H Q') :=
  fun value slice pins s σ H x y v u Q I rx ry ⟨Q', hq, h⟩ hs => thn (hr value slice pins s σ H x y v u Q' I rx ry h hs) fun z s' ⟨v', H', I', r', q'⟩ => ⟨v', H', I', r', hq _ _ q'⟩
variable {a b e : Expr} {ta tb te : TE3} {pos : Pos}
/-- a slice's bounds -/
abbrev TO3 := St3 → Mem → (Option Int → Mem → Prop) → Prop
theorem PO.imp {o : Option Expr} {t t' : TO} (h : PO X o t) (i : ∀ σ H Q, t' σ H Q → t σ H Q) : PO X o t' := ⟨fun pins s σ H Q I q => h.run pins s σ H Q I (i σ H Q q)⟩
def cutD (ds : List D) (lo hi : Option Int) : List D := (ds.drop (HT.sIx ds.length 0 lo)).take (HT.sIx ds.length ds.length hi - HT.sIx ds.length 0 lo)
def rSl3 : D → Option Int → Option Int → Mem → K3 → Prop := fun x lo hi n Q => match x with
  | .lst ds => Q (.lst (cutD ds lo hi)) n
  | .tup ds => Q (.tup (cutD ds lo hi)) n
  | .str z => z.length ≤ sizeLine ∧ Q (.str (cutS z lo hi)) n
  | _ => False
variable {es : List Expr} {ta' : TA3}
def dTup (t : TA3) : TE3 := fun σ n Q => t σ n fun ds n1 => ds.length ≤ sizeLine ∧ Q (.tup ds) n1
def nLst (t : TA3) : TN3 := fun σ n Q => t σ n fun ds n1 => ds.length ≤ sizeLine ∧ Q (.lst ds) n1
theorem d_tup {x1} (h : DA X es ta') : DE X (.Tuple es x1 pos) (dTup ta') :=
  .of (pe_tup h.pa) fun w w0 H0 σ3 σ H Q sr q => taOf.use sr q fun ds vs w1 H1 s1 r1 ⟨hz, q1⟩ => ⟨by rw [← r1.length]; exact hz, fun p hp => by
    obtain ⟨w', d, st, dr, ed, en⟩ := pub_tup s1.ok hp r1
    exact ⟨w', d, s1.trans st, dr, by rw [ed, en]; exact q1⟩⟩
theorem n_lst (h : DA X es ta') : DN X (.List es pos) (nLst ta') :=
  .of (pe_lst h.pa) fun w w0 H0 σ3 σ H Q sr q => taOf.use sr q fun ds vs w1 H1 s1 r1 ⟨hz, q1⟩ => ⟨by rw [← r1.length]; exact hz, fun p hp => by
    obtain ⟨st, l, ho, e, hn, g, b, at_, r⟩ := priv_new (o := .lst ds) s1.ok hp ⟨vs, rfl, r1⟩
    exact ⟨w1, .lst ds, s1.trans st, ⟨l, ho, e, s1.fresh hn, g, b, at_, r⟩, q1⟩⟩
def nDk0 : TN3 := fun _ n Q => Q (.dk [] []) n
theorem n_dk0 : DN X (.Dict [] [] pos) nDk0 :=
  .of pe_dnewK fun w w0 H0 σ3 σ H Q sr q p hp => by
    obtain ⟨st, nr⟩ := priv_new (o := .dk [] []) sr.ok hp ⟨[], rfl, rfl, rfl, DRs.nil⟩
    exact ⟨w, _, st, nr, q⟩
end
end L3
set_option Elab.async false
set_option linter.all false
set_option maxRecDepth 100000
set_option maxHeartbeats 1000000
namespace L3
open PySem PySem.Spec PyProof.Rows L2
variable [XCt]
abbrev X3 := Exn3 → Mem → Prop
abbrev Sp3 := List D → Mem → K3 → X3 → Prop
def spOf (sp : Sp3) : Sp := fun vs H Q E => ∃ w ds Q3 Y, WOk w H ∧ DRs w.B w.G ds vs ∧ sp ds w.n Q3 Y ∧ (∀ d v w' H', Step w H w' H' → DR w'.B w'.G d v → Q3 d w'.n → Q v H') ∧ ∀ e cls dx w' H', Step w H w' H' → ExcR w' cls dx e → Y e w'.n → E cls dx H'
abbrev SpI3 := List D → Mem → (List Str → List D → Mem → Prop) → X3 → Prop
section
variable {X : Cx} {k n : Nat} {f C : Addr} {fd : FuncData} {ps ks : List Str} {sp : Sp3} {spi : SpI3} {x m fl : Str} {p pos apos : Pos} {e o : Expr} {es : List Expr} {kws : List Keyword} {t tk : TA3} {to : TE3} {ds : List Value} {dvs : List V} {dds : List D} {g : List Value → List Value → List Value} {gV : List V → List V → List V} {gD : List D → List D → List D}
def dCall (sp : Sp3) (dds : List D) (t : TA3) : TE3 := fun σ n Q => t σ n fun vs n1 => sp (vs ++ dds) n1 Q fun e n2 => XCt.xc e σ n2
/-- the defaults' data -/
def Dfl (dds : List D) (dvs : List V) : Prop := ∀ (B : Sh) (G : Hp), DRs B G dds dvs
theorem dfl_nil : Dfl [] [] := fun _ _ => DRs.nil
theorem d_call (F : FnG X.prog X.w X.K X.mg X.base (L2N.CX X.prog X.w) k f fd ps (spOf sp)) (hr : Room k X.A) (hgd : X.A.guards = some []) (hg : Gl X x) (hm : X.mg x = some (.ref f)) (hk : PySem.W.keepIn X.K (.ref f) = true) (hb : Binds X.K fd ps ds) (hd : Vals dvs ds) (hdd : Dfl dds dvs)
    (ha : DA X (e :: es) t) (hdb : (x == ("__debug__" : Str)) = false := by decide) (he : starEach (e :: es) X.env = (false, eval e X.env) :: starEach es X.env := by rfl) (hpl : (backTo pos (starEach es X.env)).any (·.1) = false := by rfl) :
    DE X (.Call (.Name x p) (e :: es) [] pos) (dCall sp dds t) :=
  .of (pe_callG F hr hgd hg hm hk hb hd passW ha.pa hdb he hpl) fun w w0 H0 σ3 σ H Q sr q => taOf.use sr q fun ds vs w1 H1 s1 r1 q1 =>
    ⟨w1, _, _, _, s1.ok, r1.append (hdd _ _), q1, fun d v w' H' st dr q' => ⟨w', d, s1.trans st, dr, q'⟩, fun e cls dx w' H' st er y => H0.xl e cls dx w' σ3 σ H' ((sr.step s1).step st) er y⟩
/-- keywords -/
structure DK (X : Cx) (kws : List Keyword) (t : TA3) : Prop where
  pk : PK X kws (taOf X t)
theorem PK.imp {t t' : TA} (h : PK X kws t) (i : ∀ σ H Q, t' σ H Q → t σ H Q) : PK X kws t' := ⟨fun pos pins s σ H Q I q => h.run pos pins s σ H Q I (i σ H Q q)⟩
theorem dk_nil : DK X [] dNil := ⟨PK.imp pk_nil fun σ H Q2 ⟨w, w0, H0, σ3, Q, sr, q, k⟩ => k [] [] w H sr.ok.refl DRs.nil q⟩
theorem dk_cons {nm kpos} {te : TE3} (h : DE X e te) (hr : DK X kws tk) : DK X (⟨nm, e, kpos⟩ :: kws) (dCons te tk) :=
  ⟨PK.imp (pk_cons h.pe hr.pk) fun σ H Q2 ⟨w, w0, H0, σ3, Q, sr, q, k⟩ => teOf.use sr q fun d v w1 H1 s1 r1 q1 => taOf.use (sr.step s1) q1 fun ds vs w2 H2 s2 r2 q2 => k _ _ w2 H2 (s1.trans s2) (DRs.cons (s2.dr r1) r2) q2⟩
/-- o.f -/
def fldD (f : Str) : List Str → List D → Option D
  | n :: ns, d :: ds => if f = n then some d else fldD f ns ds
  | _, _ => none
theorem fld_at {B : Sh} {G : Hp} {f : Str} {d : D} : ∀ {fs : List (Str × V)} {ds : List D}, DRs B G ds (fs.map (·.2)) → fldD f (fs.map (·.1)) ds = some d → ∃ v, fs.lookup f = some v ∧ DR B G d v
  | [], ds, t, h => by
    have e := t.length
    simp at e
    subst e
    cases h
  | (n, v) :: fs, [], t, h => by cases h
  | (n, v) :: fs, d' :: ds, t, h => by
    obtain ⟨u, ws, e, r, t'⟩ := t.cons_inv
    simp only [List.map_cons, List.cons.injEq] at e
    obtain ⟨e1, e2⟩ := e
    subst e1; subst e2
    have h : (if f = n then some d' else fldD f (fs.map (·.1)) ds) = some d := h
    by_cases q : f = n
    · rw [if_pos q] at h
      cases h
      refine ⟨v, ?_, r⟩
      have z : (f == n) = true := by simpa using q
      rw [List.lookup_cons, z]
    · have h' : fldD f (fs.map (·.1)) ds = some d := by
        rw [if_neg q] at h
        exact h
      have z : (f == n) = false := by simpa using q
      rw [List.lookup_cons, z]
      exact fld_at t' h'
end
abbrev RC3 := List D → Mem → K3 → Prop
structure CallD (X : Cx) (f : Value) (r3 : RC3) : Prop where
  ex : ∃ r, CallR X f r ∧ ∀ (w : Wd) (H : Hp) (vs : List V) (ds : List D) (Q : K3), WOk w H → VRs w H ds vs → r3 ds w.n Q → r vs H fun v H' => ∃ w' d, Step w H w' H' ∧ DR w'.B w'.G d v ∧ Q d w'.n
theorem VRs.der {w : Wd} {H : Hp} (ok : WOk w H) : ∀ {ds : List D} {vs : List V}, VRs w H ds vs → VRs w H (ds.map w.n.der) vs
  | [], vs, e => e
  | d :: ds, vs, ⟨v, ws, e, r, t⟩ => ⟨v, ws, e, r.der ok, t.der ok⟩
def cDer (r : RC3) : RC3 := fun ds n Q => r (ds.map n.der) n Q
theorem CallD.der {X : Cx} {f : Value} {r3 : RC3} (h : CallD X f r3) : CallD X f (cDer r3) := let ⟨r, hr, i⟩ := h.ex; ⟨r, hr, fun w H vs ds Q ok rv q => i w H vs _ Q ok (rv.der ok) q⟩
def dCB (r3 : RC3) (t : TA3) : TE3 := fun σ n Q => t σ n fun ds n1 => r3 ds n1 Q
section
variable {X : Cx} {x : Str} {p pos : Pos} {e : Expr} {es : List Expr} {t : TA3} {r3 : RC3}
theorem callr_more {f : Value} {r : List V → Hp → VK → Prop} (hr : CallR X f r) : CallR X f (fun vs H Q => ∃ Q', (∀ v H', Q' v H' → Q v H') ∧ r vs H Q') :=
  fun pins s σ H vs us Q I rv ⟨Q', hq, h⟩ => thn (hr pins s σ H vs us Q' I rv h) fun z s' ⟨v', H', I', r', q'⟩ => ⟨v', H', I', r', hq _ _ q'⟩
theorem d_callB {id : String} (hc : CallD X (.builtin id) r3) (hg : Gl X x) (hm : X.mg x = none) (hv : bootBuiltins x = some (.builtin id)) (ha : DAv X (e :: es) t) (hn : x ≠ "__name__" := by decide) (hdb : (x == ("__debug__" : Str)) = false := by decide)
    (he : starEach (e :: es) X.env = (false, eval e X.env) :: starEach es X.env := by rfl) (hpl : (backTo pos (starEach es X.env)).any (·.1) = false := by rfl) : DE X (.Call (.Name x p) (e :: es) [] pos) (dCB r3 t) := by
  obtain ⟨r, hr, i⟩ := hc.ex
  exact .of (pe_callB (callr_more hr) hg hm hv ha.pa hn hdb he hpl) fun w w0 H0 σ3 σ H Q sr q => ⟨w, w0, H0, σ3, _, sr, q, fun ds vs w1 H1 s1 r1 q1 => ⟨_, fun v H' ⟨w', d, st, dr, q'⟩ => ⟨w', d, s1.trans st, dr, q'⟩, i w1 H1 vs ds _ s1.ok r1.now q1⟩⟩
end
end L3
set_option Elab.async false
set_option linter.all false
set_option maxRecDepth 100000
set_option maxHeartbeats 1000000
namespace L3
open PySem PySem.Spec PyProof.Rows L2
variable [XCt]
abbrev TG3 := D → St3 → Mem → (St3 → Mem → Prop) → Prop
abbrev TGs3 := List D → St3 → Mem → (St3 → Mem → Prop) → Prop
/-- but for these places the names are as they were -/
def Off (is : List Nat) (σ σ' : St2) : Prop := σ'.length = σ.length ∧ ∀ j, j ∉ is → σ'[j]? = σ[j]?
theorem Off.refl {is : List Nat} {σ : St2} : Off is σ σ := ⟨rfl, fun _ _ => rfl⟩
theorem Off.trans {is js : List Nat} {σ σ1 σ2 : St2} (a : Off is σ σ1) (b : Off js σ1 σ2) : Off (is ++ js) σ σ2 :=
  ⟨b.1.trans a.1, fun j h => (b.2 j fun z => h (List.mem_append_right _ z)).trans (a.2 j fun z => h (List.mem_append_left _ z))⟩
def gOf (X : Cx) (is : List Nat) (g : TG3) : TG := fun v σ H Q2 => ∃ w w0, ∃ H0 : F0 (Wm X) w0, ∃ σ3 d Q, SR w0 H0 w H σ3 σ ∧ DR w.B w.G d v ∧ g d σ3 w.n Q ∧ ∀ w' H' σ3' σ', SR w0 H0 w' H' σ3' σ' → Step w H w' H' → Off is σ σ' → Q σ3' w'.n → Q2 σ' H'
def gsOf (X : Cx) (is : List Nat) (g : TGs3) : TGs := fun vs σ H Q2 => ∃ w w0, ∃ H0 : F0 (Wm X) w0, ∃ σ3 ds Q, SR w0 H0 w H σ3 σ ∧ DRs w.B w.G ds vs ∧ g ds σ3 w.n Q ∧ ∀ w' H' σ3' σ', SR w0 H0 w' H' σ3' σ' → Step w H w' H' → Off is σ σ' → Q σ3' w'.n → Q2 σ' H'
structure DG (X : Cx) (tg : Expr) (is : List Nat) (g : TG3) : Prop where
  pg : PG X tg (gOf X is g)
structure DGs (X : Cx) (tgs : List Expr) (is : List Nat) (g : TGs3) : Prop where
  pgs : PGs X tgs (gsOf X is g)
theorem PG.imp {X : Cx} {tg : Expr} {t t' : TG} (h : PG X tg t) (i : ∀ v σ H Q, t' v σ H Q → t v σ H Q) : PG X tg t' := ⟨fun pins s σ H v u Q I r q => h.run pins s σ H v u Q I r (i v σ H Q q)⟩
theorem PGs.imp {X : Cx} {tg : List Expr} {t t' : TGs} (h : PGs X tg t) (i : ∀ v σ H Q, t' v σ H Q → t v σ H Q) : PGs X tg t' := ⟨fun pins s σ H v u Q I r q => h.run pins s σ H v u Q I r (i v σ H Q q)⟩
def gNm (i : Nat) : TG3 := fun d σ n Q => Q (σ.set i (some (S3.dat d))) n
def gTp (k : Nat) (gs : TGs3) : TG3 := fun d σ n Q => ∃ ds, d = .tup ds ∧ ds.length = k ∧ gs ds σ n Q
def gsNil : TGs3 := fun ds σ n Q => ds = [] ∧ Q σ n
def gsCons (g : TG3) (gs : TGs3) : TGs3 := fun ds σ n Q => ∃ d r, ds = d :: r ∧ g d σ n fun σ' n' => gs r σ' n' Q
section
variable {X : Cx} {pos : Pos}
theorem dg_name {i : Nat} {x : Str} (hN : X.N.Nodup) (hi : X.N[i]? = some x) (hx : Loc X.env.scope x) (hf : X.fn x = true ∨ X.env.scope.names.lookup x = some .local := by first | exact .inl rfl | exact .inr rfl | assumption) : DG X (.Name x pos) [i] (gNm i) :=
  ⟨PG.imp (pg_name hN hi hx hf) fun v σ H Q2 ⟨w, w0, H0, σ3, d, Q, sr, dr, q, k⟩ => k w H _ _ (sr.setD i dr) sr.ok.refl ⟨List.length_set, fun j h => List.getElem?_set_ne (fun z => h (by rw [z]; exact List.mem_cons_self))⟩ q⟩
theorem dgs_nil : DGs X [] [] gsNil := ⟨PGs.imp pgs_nil fun vs σ H Q2 ⟨w, w0, H0, σ3, ds, Q, sr, dr, ⟨e, q⟩, k⟩ => by
  subst e
  exact ⟨dr.nil_inv, k w H _ _ sr sr.ok.refl Off.refl q⟩⟩
theorem dgs_cons {e : Expr} {es : List Expr} {g : TG3} {gs : TGs3} {is js : List Nat} (h1 : DG X e is g) (h2 : DGs X es js gs) (hs : (assignEach (e :: es) X.env).map (·.2) = assign e X.env :: (assignEach es X.env).map (·.2) := by rfl) : DGs X (e :: es) (is ++ js) (gsCons g gs) :=
  ⟨PGs.imp (pgs_cons h1.pg h2.pgs hs) fun vs σ H Q2 ⟨w, w0, H0, σ3, ds, Q, sr, dr, ⟨d, r, e, q⟩, k⟩ => by
    subst e
    obtain ⟨v, vr, e1, r1, t1⟩ := dr.cons_inv
    refine ⟨v, vr, e1, w, w0, H0, σ3, d, _, sr, r1, q, fun w1 H1 σ1 σ' sr1 l1 f1 q1 => ⟨w1, w0, H0, σ1, r, Q, sr1, l1.drs t1, q1, fun w2 H2 σ2 σ'' sr2 l2 f2 q2 => k w2 H2 σ2 σ'' sr2 (l1.trans l2) (f1.trans f2) q2⟩⟩⟩
theorem dg_tup {es : List Expr} {k : Nat} {gs : TGs3} {n : Nat} {is : List Nat} (hc : X.calm = true) (h : DGs X es is gs) (hn : (assignEach es X.env).length = n := by rfl) (hst : (assignEach es X.env).findIdx? (·.1) = none := by rfl) : DG X (.Tuple es k pos) is (gTp n gs) :=
  ⟨PG.imp (pg_tup hc h.pgs hn hst) fun v σ H Q2 ⟨w, w0, H0, σ3, d, Q, sr, dr, ⟨ds, e, hl, q⟩, k⟩ => by
    subst e
    obtain ⟨a, xs, e1, _, hh, t⟩ := VR.tup sr.ok (.inl dr)
    exact ⟨a, xs, e1, SqT.of hh, by rw [← t.length]; exact hl, w, w0, H0, σ3, ds, Q, sr, t, q, k⟩⟩
end
def dNext : TS3 := fun E σ n => E.nx σ n
def dSeq (t u : TS3) : TS3 := fun E σ n => t { E with nx := u E } σ n
def dSet (t : TE3) (g : TG3) : TS3 := fun E σ n => t σ n fun d n1 => g d σ n1 E.nx
def dRet (t : TE3) : TS3 := fun E σ n => t σ n E.rt
def dIf (c : TT3) (t u : TS3) : TS3 := fun E σ n => c σ n fun b n1 => if b = true then t E σ n1 else u E σ n1
section
variable {X : Cx} {st : Stmt} {rest : List Stmt} {t u : TS3} {e : Expr} {te : TE3} {pos : Pos}
theorem dss_nil : DSs X [] dNext := .of pss_nil fun w w0 H0 σ3 σ H E sr q => ⟨w, σ3, sr, Later.refl, q⟩
theorem dss_cons (h1 : DS X st t) (h2 : DSs X rest u) : DSs X (st :: rest) (dSeq t u) :=
  .of (pss_cons h1.ps h2.pss) fun w w0 H0 σ3 σ H E sr q =>
    ⟨w, w0, H0, σ3, _, sr, q, ⟨fun σ' H' ⟨w', σ3', sr', l, q'⟩ => tsOf.at_ sr' l q', fun _ _ q => q, fun _ _ q => q, fun _ _ q => q⟩⟩
theorem ds_ret (h : DE X e te) : DS X (.Return (some e) pos) (dRet te) :=
  .of (ps_ret h.pe) fun w w0 H0 σ3 σ H E sr q => teOf.use sr q fun d v w' H' s dr q' => ⟨w', sr.st.trans s, .inl ⟨d, dr, q'⟩⟩
theorem ds_if {c : Expr} {a b : List Stmt} {tc : TT3} (hc : DT X c tc) (ha : DSs X a t) (hb : DSs X b u) : DS X (.If c a b pos) (dIf tc t u) :=
  .of (ps_if hc.pt ha.pss hb.pss) fun w w0 H0 σ3 σ H E sr q => ttOf.use sr q fun c w' H' s q' => by
    cases c with
    | true =>
      rw [if_pos rfl] at q' ⊢
      exact tsOf.at_ (sr.step s) s.later q'
    | false =>
      rw [if_neg Bool.false_ne_true] at q' ⊢
      exact tsOf.at_ (sr.step s) s.later q'
theorem ds_set {i : Nat} {x : Str} {pos' : Pos} (hN : X.N.Nodup) (hi : X.N[i]? = some x) (hx : Loc X.env.scope x) (h : DE X e te) (hs : swapsWith e (some (.Name x pos')) pos.line X.env = pure false := by rfl) (hf : X.fn x = true ∨ X.env.scope.names.lookup x = some .local := by first | exact .inl rfl | exact .inr rfl | assumption) :
    DS X (.Assign [.Name x pos'] e pos) (dSet te (gNm i)) :=
  .of (ps_set hN hi hx h.pe hs hf) fun w w0 H0 σ3 σ H E sr q => teOf.use sr q fun d v w' H' s dr q' => ⟨w', _, (sr.step s).setD i dr, s.later, q'⟩
theorem SR.fresh_ne {w0 : W0} {w w1 : Wd} {H0 H H1 : Hp} {σ3 : St3} {σ : St2} {l : Addr} (sr : SR w0 H0 w H σ3 σ) (hl : H l = none) (j : Nat) (o : O) (e : σ3[j]? = some (some (S3.own o))) : σ[j]? ≠ some (some (V.ref l)) := by
  intro z
  obtain ⟨l', e', ow⟩ := sr.own j o e
  rw [z] at e'
  cases e'
  obtain ⟨ho, q, _⟩ := ow.at_
  rw [hl] at q; cases q
theorem Own.lst {H0 : Hp} {w : Wd} {H : Hp} {ds : List D} {l : Addr} (ow : Own H0 w H (.lst ds) l) : ∃ xs, H l = some (.lst xs) ∧ DRs w.B w.G ds xs := by
  obtain ⟨ho, e, xs, r, t⟩ := ow.at_
  subst r
  exact ⟨xs, e, t⟩
end
end L3
set_option Elab.async false
set_option linter.all false
set_option maxRecDepth 100000
set_option maxHeartbeats 1000000
namespace L3
open PySem PySem.Spec PyProof.Rows L2
variable [XCt]
abbrev TI3 := St3 → Mem → (List D → (Mem → Prop) → Mem → Prop) → Prop
/-- the walk gives these -/
def JT (J : It) (w : Wd) (P : Mem → Prop) (items : List D) : Prop := ∀ (i : Nat) (w' : Wd) (H' : Hp), WOk w' H' → Later w w' → P w'.n → (i = items.length → J.stop i H') ∧
  ∀ d, items[i]? = some d → J.go i H' ∧ ∀ x H'', J.yld i H' x H'' → ∃ w'', Step w' H' w'' H'' ∧ w''.n = w'.n ∧ DR w''.B w''.G d x
theorem JT.imp {J : It} {w : Wd} {P P' : Mem → Prop} {items : List D} (h : JT J w P items) (k : ∀ n, P' n → P n) : JT J w P' items := fun i w' H' ok l q => h i w' H' ok l (k _ q)
def tiOf (X : Cx) (t : TI3) : TI := fun σ H R => ∃ w w0, ∃ H0 : F0 (Wm X) w0, ∃ σ3 Q, SR w0 H0 w H σ3 σ ∧ t σ3 w.n Q ∧ ∀ items P J w' H', Step w H w' H' → JT J w' P items → Q items P w'.n → R J H'
structure DI (X : Cx) (tg iter : Expr) (t : TI3) : Prop where
  pi : PI X tg iter (tiOf X t)
theorem PI.imp {X : Cx} {tg iter : Expr} {t t' : TI} (h : PI X tg iter t) (i : ∀ σ H Q, t' σ H Q → t σ H Q) : PI X tg iter t' := ⟨fun pins s σ H Q I q => h.run pins s σ H Q I (i σ H Q q)⟩
section
variable {X : Cx} {tg : Expr}
/-- a list, as it stands later -/
theorem lst_later {w w' : Wd} {H' : Hp} {a : Addr} {d : D} {ds : List D} (r : DR w.B w.G d (.ref a)) (ok : WOk w' H') (l : Later w w') (hP : w'.n.der d = .lst ds) : ∃ xs, H' a = some (.lst xs) ∧ DRs w'.B w'.G ds xs := by
  have rv := VR.der ok (.inl (DR.mono l.g l.b _ _ r))
  rw [hP] at rv
  obtain ⟨b, xs, e, hh, t⟩ := rv.lst ok
  cases e
  exact ⟨xs, hh, t⟩
theorem jt_list {K : PySem.W.Frag} {w : Wd} {a : Addr} {d : D} {ds : List D} (r : DR w.B w.G d (.ref a)) : JT (Itl K a) w (fun m => m.der d = .lst ds) ds := by
  intro i w' H' ok l hP
  obtain ⟨xs, hh, t⟩ := lst_later r ok l hP
  refine ⟨fun e => ⟨xs, SqL.of hh, by rw [e, t.length]; exact Nat.le_refl _⟩, fun d e => ?_⟩
  obtain ⟨v, ev, r⟩ := t.get e
  exact ⟨⟨xs, v, SqL.of hh, ev⟩, fun x H'' ⟨e1, q⟩ => by
    subst e1
    have e2 := q xs (SqL.of hh)
    rw [ev] at e2
    cases e2
    exact ⟨w', ok.refl, rfl, r⟩⟩
def rangeD (lo : Int) (n : Nat) : List D := (List.range n).map fun (k : Nat) => D.int (lo + (k : Int))
theorem jt_range {w : Wd} (lo : Int) (n : Nat) : JT (Itr lo n) w (fun _ => True) (rangeD lo n) := by
  intro i w' H' ok l hP
  unfold rangeD
  refine ⟨fun e => by rw [List.length_map, List.length_range] at e; rw [e]; exact Nat.le_refl _, fun d e => ?_⟩
  rw [List.getElem?_map] at e
  cases q : (List.range n)[i]? with
  | none => rw [q] at e; cases e
  | some k =>
    rw [q] at e
    cases e
    obtain ⟨hi, ek⟩ := List.getElem?_eq_some_iff.mp q
    rw [List.length_range] at hi
    rw [List.getElem_range] at ek
    subst ek
    exact ⟨hi, fun x H'' ⟨e1, q⟩ => by
      subst e1 q
      exact ⟨w', ok.refl, rfl, dr_int⟩⟩
def enumD (ds : List D) : List D := ds.mapIdx fun i d => D.tup [.int (i : Int), d]
theorem jt_enum {K : PySem.W.Frag} {w : Wd} {a : Addr} {d : D} {ds : List D} (r : DR w.B w.G d (.ref a)) : JT (Ite K a) w (fun m => m.der d = .lst ds) (enumD ds) := by
  intro i w' H' ok l hP
  obtain ⟨xs, hh, t⟩ := lst_later r ok l hP
  unfold enumD
  refine ⟨fun e => ⟨xs, SqL.of hh, by rw [List.length_mapIdx] at e; rw [e, t.length]; exact Nat.le_refl _⟩, fun d e => ?_⟩
  rw [List.getElem?_mapIdx] at e
  cases q : ds[i]? with
  | none => rw [q] at e; cases e
  | some d0 =>
    rw [q] at e
    cases e
    obtain ⟨v, ev, r⟩ := t.get q
    refine ⟨⟨xs, v, SqL.of hh, ev⟩, fun x H'' ⟨T, y, ex, hT, eH, q⟩ => ?_⟩
    subst ex eH
    have e2 := q xs (SqL.of hh)
    rw [ev] at e2
    cases e2
    obtain ⟨w2, d2, st, dr, ed, en⟩ := pub_tup (ds := [.int (i : Int), d0]) ok hT (DRs.cons dr_int (DRs.cons r DRs.nil))
    subst ed
    exact ⟨w2, st, en, dr⟩
def zipD (ds es : List D) : List D := List.zipWith (fun x y => D.tup [x, y]) ds es
def signsD (z : Str) : List D := z.cps.toList.map fun c => D.str ⟨#[c]⟩
variable {e e2 a b : Expr} {te te2 : TE3} {ta : TA3} {p pos tpos : Pos} {elts : List Expr} {kk : Nat}
def iSeq (t : TE3) : TI3 := fun σ n Q => t σ n fun d n1 => ∃ ds, n1.der d = .lst ds ∧ Q ds (fun m => m.der d = .lst ds) n1
def iRange1 (t : TE3) : TI3 := fun σ n Q => t σ n fun d n1 => ∃ j, d = .int j ∧ -(2 ^ 62) ≤ j ∧ j < 2 ^ 62 ∧ Q (rangeD 0 j.toNat) (fun _ => True) n1
def iEnumD (t : TE3) : TI3 := fun σ n Q => t σ n fun d n1 => ∃ ds, n1.der d = .lst ds ∧ Q (enumD ds) (fun m => m.der d = .lst ds) n1
theorem dr_tup {B : Sh} {G : Hp} {ds : List D} {v : V} (h : DR B G (.tup ds) v) : ∃ a xs, v = .ref a ∧ G a = some (.tup xs) ∧ DRs B G ds xs := by unfold DR at h; exact h
/-- what stands as a list -/
theorem lst_now {w : Wd} {H : Hp} {d : D} {v : V} {ds : List D} (r : DR w.B w.G d v) (ok : WOk w H) (e : w.n.der d = .lst ds) : ∃ a xs, v = .ref a ∧ H a = some (.lst xs) ∧ DRs w.B w.G ds xs := by
  have rv := VR.der ok (.inl r)
  rw [e] at rv
  exact rv.lst ok
theorem di_list (h : DE X e te) : DI X tg e (iSeq te) :=
  ⟨PI.imp (pi_list h.pe) fun σ H R ⟨w, w0, H0, σ3, Q, sr, q, k⟩ => teOf.use sr q fun d v w1 H1 s r ⟨ds, ed, q1⟩ => by
    obtain ⟨a, xs, ev, ha, t⟩ := lst_now r s.ok ed
    subst ev
    exact ⟨a, rfl, ⟨xs, SqL.of ha⟩, k ds _ _ w1 H1 s (jt_list r) q1⟩⟩
theorem di_range1 (hg : Gl X "range") (hm : X.mg "range" = none) (h : DE X a te) (hs : starEach [a] X.env = [(false, eval a X.env)] := by rfl) : DI X tg (.Call (.Name "range" p) [a] [] pos) (iRange1 te) :=
  ⟨PI.imp (pi_range1 hg hm (pa_cons h.pe pa_nil hs) hs) fun σ H R ⟨w, w0, H0, σ3, Q, sr, q, k⟩ => teOf.use sr q fun d v w1 H1 s r ⟨j, ed, b1, b2, q1⟩ => by
    subst ed
    unfold DR at r
    subst r
    exact ⟨j, rfl, b1, b2, k _ _ _ w1 H1 s (jt_range 0 j.toNat) q1⟩⟩
theorem di_enum (hg : Gl X "enumerate") (hm : X.mg "enumerate" = none) (h : DE X e te) (hs : starEach [e] X.env = [(false, eval e X.env)] := by rfl) : DI X (.Tuple elts kk tpos) (.Call (.Name "enumerate" p) [e] [] pos) (iEnumD te) :=
  ⟨PI.imp (pi_enum hg hm (pa_cons h.pe pa_nil hs) hs) fun σ H R ⟨w, w0, H0, σ3, Q, sr, q, k⟩ => teOf.use sr q fun d v w1 H1 s r ⟨ds, ed, q1⟩ => by
    obtain ⟨a, xs, ev, ha, t⟩ := lst_now r s.ok ed
    subst ev
    exact ⟨a, xs, rfl, SqL.of ha, k _ _ _ w1 H1 s (jt_enum r) q1⟩⟩
end
def dFor (wi : TI3) (g : TG3) (tb : TS3) : TS3 := fun E σ n => wi σ n fun items P n1 => ∃ W : Nat → St3 → Mem → Prop, W 0 σ n1 ∧
  (∀ i d σ' n', items[i]? = some d → W i σ' n' → P n' ∧ g d σ' n' fun σ2 n2 => tb { E with nx := W (i + 1), ct := W (i + 1), bk := E.nx } σ2 n2) ∧ ∀ σ' n', W items.length σ' n' → P n' ∧ E.nx σ' n'
section
variable {X : Cx} {tg iter c : Expr} {body : List Stmt} {wi : TI3} {g : TG3} {is : List Nat} {tb : TS3} {tc : TT3} {pos : Pos}
theorem ds_for (hp : PassesOwn (model X.prog X.w) X.A X.env X.xe) (hc : X.calm = true) (hi : DI X tg iter wi) (hg : DG X tg is g) (hb : DSs X body tb) (hs : ∀ x, foldedSetIterable iter X.env x = pure x := by intro _; rfl) : DS X (.For tg iter body [] pos) (dFor wi g tb) :=
  .of (ps_for hp hc hi.pi hg.pg hb.pss hs) fun w w0 H0 σ3 σ H E sr q => ⟨w, w0, H0, σ3, _, sr, q, fun items Pm J w1 H1 s1 jt ⟨W, h0, hstep, hend⟩ => by
    let P : Nat → St2 → Hp → Prop := fun i σ' H' => ∃ w' σ3', SR w0 H0 w' H' σ3' σ' ∧ Later w1 w' ∧ W i σ3' w'.n
    refine ⟨fun i m σ' H' => m = items.length - i ∧ i ≤ items.length ∧ P i σ' H', ⟨_, rfl, Nat.zero_le _, w1, σ3, sr.step s1, Later.refl, h0⟩, ?_⟩
    rintro i m σ' H' ⟨em, hi, w', σ3', sr', l', hw⟩
    by_cases hlt : i < items.length
    · obtain ⟨hgo, hy⟩ := (jt i w' H' sr'.ok l' (hstep i items[i] σ3' w'.n (List.getElem?_eq_getElem hlt) hw).1).2 items[i] (List.getElem?_eq_getElem hlt)
      refine .inr ⟨hgo, P (i + 1), fun σ2 H2 p2 => ⟨items.length - (i + 1), by omega, rfl, hlt, p2⟩, fun x H'' y => ?_⟩
      obtain ⟨w2, s2, en, r2⟩ := hy x H'' y
      have q2 := (hstep i items[i] σ3' w2.n (List.getElem?_eq_getElem hlt) (by rw [en]; exact hw)).2
      refine ⟨w2, w0, H0, σ3', _, _, sr'.step s2, r2, q2, fun w3 H3 σ4 σ5 sr3 s3 _ q3 => ?_⟩
      have l3 : Later w1 w3 := l'.trans (s2.later.trans s3.later)
      exact ⟨w3, w0, H0, σ4, _, sr3, q3, ⟨fun σ6 H6 ⟨w6, σ7, sr6, l6, q6⟩ => ⟨w6, σ7, sr6, l3.trans l6, q6⟩, fun _ _ q => q, fun σ6 H6 ⟨w6, σ7, sr6, l6, q6⟩ => ⟨w6, σ7, sr6, s1.later.trans (l3.trans l6), q6⟩, fun σ6 H6 ⟨w6, σ7, sr6, l6, q6⟩ => ⟨w6, σ7, sr6, l3.trans l6, q6⟩⟩⟩
    · have e : i = items.length := by omega
      subst e
      exact .inl ⟨(jt _ w' H' sr'.ok l' (hend _ _ hw).1).1 rfl, w', σ3', sr', s1.later.trans l', (hend _ _ hw).2⟩⟩
end
end L3
set_option Elab.async false
set_option linter.all false
set_option maxRecDepth 100000
set_option maxHeartbeats 1000000
namespace L3
open PySem PySem.Spec PyProof.Rows L2
variable [XCt]
def wipe3 (σ : St3) : List Nat → St3
  | [] => σ
  | v :: vs => (wipe3 σ vs).set v none
section
variable {w0 : W0} {w : Wd} {H0 H : Hp} {σ3 : St3} {σ : St2}
theorem SR.setNone (h : SR w0 H0 w H σ3 σ) (i : Nat) : SR w0 H0 w H (σ3.set i none) (σ.set i none) where
  st := h.st
  lt := h.lt
  len := by rw [List.length_set, List.length_set]; exact h.len
  dat := fun j d' e => by
    by_cases q : i = j
    · subst q
      rw [List.getElem?_set_self (lt_of_set e)] at e
      cases e
    · rw [List.getElem?_set_ne q] at e
      rw [List.getElem?_set_ne q]
      exact h.dat j d' e
  own := fun j o e => by
    by_cases q : i = j
    · subst q
      rw [List.getElem?_set_self (lt_of_set e)] at e
      cases e
    · rw [List.getElem?_set_ne q] at e
      rw [List.getElem?_set_ne q]
      exact h.own j o e
  inj := fun a b o o' l e1 e2 e3 e4 => by
    have key : ∀ {a : Nat} {o : O}, (σ3.set i none)[a]? = some (some (S3.own o)) → i ≠ a := fun {a o} e q => by
      subst q
      rw [List.getElem?_set_self (lt_of_set e)] at e
      cases e
    have n1 := key e1
    have n2 := key e2
    rw [List.getElem?_set_ne n1] at e1 e3
    rw [List.getElem?_set_ne n2] at e2 e4
    exact h.inj a b o o' l e1 e2 e3 e4
theorem SR.wipe (h : SR w0 H0 w H σ3 σ) : ∀ vs : List Nat, SR w0 H0 w H (wipe3 σ3 vs) (L2.wipe σ vs)
  | [] => h
  | v :: vs => (SR.wipe h vs).setNone v
end
theorem wipe_get (σ : St2) : ∀ (vs : List Nat) (j : Nat), (L2.wipe σ vs)[j]? = if j ∈ vs then (if j < σ.length then some none else none) else σ[j]?
  | [], j => by rw [if_neg (by simp)]; rfl
  | v :: vs, j => by
    show ((L2.wipe σ vs).set v none)[j]? = _
    by_cases q : v = j
    · subst q
      rw [if_pos List.mem_cons_self]
      by_cases hl : v < σ.length
      · rw [if_pos hl, List.getElem?_set_self (by rw [wipe_length]; exact hl)]
      · rw [if_neg hl]
        exact List.getElem?_eq_none_iff.mpr (by rw [List.length_set, wipe_length]; omega)
    · rw [List.getElem?_set_ne q, wipe_get σ vs j]
      have e : (j ∈ v :: vs) ↔ j ∈ vs := ⟨fun h => (List.mem_cons.mp h).elim (fun z => absurd z.symm q) id, List.mem_cons_of_mem _⟩
      by_cases hm : j ∈ vs
      · rw [if_pos hm, if_pos (e.mpr hm)]
      · rw [if_neg hm, if_neg (fun z => hm (e.mp z))]
theorem Off.wipe {is vs : List Nat} {σ σ2 : St2} (h : Off is (L2.wipe σ vs) σ2) (hs : ∀ j ∈ is, j ∈ vs) : L2.wipe σ2 vs = L2.wipe σ vs := by
  apply List.ext_getElem?
  intro j
  have hl : σ2.length = σ.length := h.1.trans (wipe_length σ vs)
  rw [wipe_get, wipe_get, hl]
  by_cases hm : j ∈ vs
  · rw [if_pos hm, if_pos hm]
  · rw [if_neg hm, if_neg hm, h.2 j (fun z => hm (hs j z)), wipe_get, if_neg hm]
section
variable {X : Cx}
def teD (t : TE3) : TE := fun σ H Q2 => ∃ w w0 H0 σ3 Q, SR w0 H0 w H σ3 σ ∧ t σ3 w.n Q ∧ ∀ d v w' H', Step w H w' H' → DR w'.B w'.G d v → Q d w'.n → Q2 v H'
def ttD (t : TT3) : TT := fun σ H Q2 => ∃ w w0 H0 σ3 Q, SR w0 H0 w H σ3 σ ∧ t σ3 w.n Q ∧ ∀ b w' H', Step w H w' H' → Q b w'.n → Q2 b H'
def gD (is : List Nat) (g : TG3) : TG := fun v σ H Q2 => ∃ w w0 H0 σ3 d Q, SR w0 H0 w H σ3 σ ∧ DR w.B w.G d v ∧ g d σ3 w.n Q ∧ ∀ w' H' σ3' σ', SR w0 H0 w' H' σ3' σ' → Step w H w' H' → Off is σ σ' → Q σ3' w'.n → Q2 σ' H'
theorem teD_le {t : TE3} (σ : St2) (H : Hp) (Q : VK) (h : teD t σ H Q) : @teOf XCt.dead X t σ H Q := let ⟨w, w0, H0, r⟩ := h; ⟨w, w0, F0.dead _ w0 H0, r⟩
theorem ttD_le {t : TT3} (σ : St2) (H : Hp) (Q : Bool → Hp → Prop) (h : ttD t σ H Q) : @ttOf XCt.dead X t σ H Q := let ⟨w, w0, H0, r⟩ := h; ⟨w, w0, F0.dead _ w0 H0, r⟩
theorem gD_le {is : List Nat} {g : TG3} (v : V) (σ : St2) (H : Hp) (Q : St2 → Hp → Prop) (h : gD is g v σ H Q) : @gOf XCt.dead X is g v σ H Q := let ⟨w, w0, H0, r⟩ := h; ⟨w, w0, F0.dead _ w0 H0, r⟩
theorem teD.use {w : Wd} {w0 : W0} {H0 H : Hp} {σ3 : St3} {σ : St2} {t : TE3} {Q : K3} {Q2 : VK} (sr : SR w0 H0 w H σ3 σ) (h : t σ3 w.n Q) (k : ∀ d v w' H', Step w H w' H' → DR w'.B w'.G d v → Q d w'.n → Q2 v H') : teD t σ H Q2 := ⟨w, w0, H0, σ3, Q, sr, h, k⟩
theorem ttD.use {w : Wd} {w0 : W0} {H0 H : Hp} {σ3 : St3} {σ : St2} {t : TT3} {Q} {Q2 : Bool → Hp → Prop} (sr : SR w0 H0 w H σ3 σ) (h : t σ3 w.n Q) (k : ∀ b w' H', Step w H w' H' → Q b w'.n → Q2 b H') : ttD t σ H Q2 := ⟨w, w0, H0, σ3, Q, sr, h, k⟩
end
structure DTs (X : Cx) (ifs : List Expr) (t : TT3) : Prop where
  pts : PTs X ifs (ttOf X t)
theorem PTs.imp {X : Cx} {ifs : List Expr} {t t' : TT} (h : PTs X ifs t) (i : ∀ σ H Q, t' σ H Q → t σ H Q) : PTs X ifs t' := ⟨fun pins s σ H Q I q => h.run pins s σ H Q I (i σ H Q q)⟩
def dYes : TT3 := fun _ n Q => Q true n
theorem dts_nil {X : Cx} : DTs X [] dYes := ⟨PTs.imp pts_nil fun σ H Q2 ⟨w, w0, H0, σ3, Q, sr, q, k⟩ => k true w H sr.ok.refl q⟩
theorem Step.privAt {w w' : Wd} {H H' : Hp} {p : Addr} {o : HO} (s : Step w H w' H') (hp : H p = none) (g : w'.G p = none) (b : ¬ w'.B p) (ho : ∀ xs, o ≠ .tup xs) : Step w H w' (upd H' p o) where
  ok := ⟨fun a u e => by
      have ne : a ≠ p := fun z => by rw [z, g] at e; cases e
      rw [upd_ne ne]; exact s.ok.gh a u e, fun c hc => by
      obtain ⟨g', x, j, k, e, c'⟩ := s.ok.box c hc
      have ne : c ≠ p := fun z => b (by rw [← z]; exact .inl hc)
      exact ⟨g', x, j, k, by rw [upd_ne ne]; exact e, c'⟩, fun i c hc => by
      obtain ⟨nb, ⟨h1, e1⟩, k⟩ := s.ok.cel i c hc
      have ne : c ≠ p := fun z => b (by rw [← z]; exact .inr (List.mem_of_getElem? hc))
      exact ⟨nb, ⟨h1, by rw [upd_ne ne]; exact e1⟩, fun o1 eo => let ⟨g', ho1, e2, r1⟩ := k o1 eo; ⟨g', ho1, by rw [upd_ne ne]; exact e2, r1⟩⟩, s.ok.cnd, s.ok.cln, fun a xs e => by
      by_cases q : a = p
      · rw [q, upd_same] at e
        exact absurd (Option.some.inj e) (ho xs)
      · rw [upd_ne q] at e
        exact s.ok.tp a xs e⟩
  gg := s.gg
  bb := s.bb
  hh := fun a u e nb => by
    have ne : a ≠ p := fun z => by rw [z, hp] at e; cases e
    rw [upd_ne ne]; exact s.hh a u e nb
  newG := s.newG
  newB := s.newB
  nn := s.nn
def nLc (wi : TI3) (g : TG3) (tt : TT3) (te : TE3) (vs : List Nat) : TN3 := fun σ n Q => wi σ n fun items P n1 => ∃ W : Nat → List D → Mem → Prop, W 0 [] n1 ∧
  (∀ i d acc n', items[i]? = some d → W i acc n' → P n' ∧ g d (wipe3 σ vs) n' fun σ2 n2 => tt σ2 n2 fun b n3 => if b = true then te σ2 n3 fun y n4 => acc.length < sizeLine ∧ W (i + 1) (acc ++ [y]) n4 else W (i + 1) acc n3) ∧
  ∀ acc n', W items.length acc n' → P n' ∧ Q (.lst acc) n'
section
variable {X : Cx} {tg iter elt : Expr} {ifs : List Expr} {wi : TI3} {g : TG3} {is : List Nat} {tt : TT3} {te : TE3} {pos : Pos} {scope : Scope} {own : List (Str × Nat)}
theorem lc_imp {w : Wd} {w0 : W0} {H0 : F0 (Wm X) w0} {σ3 : St3} {σ : St2} {H : Hp} {Q : O → Mem → Prop} (hsub : ∀ j ∈ is, j ∈ own.map (·.2)) (sr : SR w0 H0 w H σ3 σ) (q : nLc wi g tt te (own.map (·.2)) σ3 w.n Q) {Q2 : VK} (kQ : ∀ v H', (∃ w' ds, Step w H w' H' ∧ NR H w' H' (.lst ds) v ∧ Q (.lst ds) w'.n) → Q2 v H') :
    tLc (tiOf X wi) (gD is g) (ttD tt) (teD te) (own.map (·.2)) σ H Q2 :=
  ⟨w, w0, H0, σ3, _, sr, q, fun items Pm J w1 H1 s1 jt ⟨W, h0, hstep, hend⟩ Dl hD => by
    have gD : w1.G Dl = none := s1.ok.gh.none hD
    have bD : ¬ w1.B Dl := s1.ok.noB hD
    let P : Nat → Hp → Prop := fun i H' => ∃ w' accD acc, Step w1 H1 w' H' ∧ w'.G Dl = none ∧ ¬ w'.B Dl ∧ H' Dl = some (.lst acc) ∧ DRs w'.B w'.G accD acc ∧ W i accD w'.n
    refine ⟨fun i m H' => m = items.length - i ∧ i ≤ items.length ∧ P i H', ⟨_, rfl, Nat.zero_le _, w1, [], [], s1.ok.refl.privAt hD gD bD (fun _ z => by cases z), gD, bD, upd_same, DRs.nil, h0⟩, ?_⟩
    rintro i m H' ⟨em, hi, w', accD, acc, st, g', b', at_, r, hw⟩
    by_cases hlt : i < items.length
    · obtain ⟨hgo, hy⟩ := (jt i w' H' st.ok st.later (hstep i items[i] accD w'.n (List.getElem?_eq_getElem hlt) hw).1).2 items[i] (List.getElem?_eq_getElem hlt)
      refine .inr ⟨hgo, P (i + 1), fun H2 p2 => ⟨items.length - (i + 1), by omega, rfl, hlt, p2⟩, fun x H'' y => ?_⟩
      obtain ⟨w2, s2, en, r2⟩ := hy x H'' y
      have q2 := (hstep i items[i] accD w2.n (List.getElem?_eq_getElem hlt) (by rw [en]; exact hw)).2
      have sr2 := ((sr.step s1).step (st.trans s2)).wipe (own.map (·.2))
      refine ⟨w2, w0, H0.hp, _, _, _, sr2, r2, q2, fun w3 H3 σ4 σ5 sr3 s3 off q3 => ⟨off.wipe hsub, ?_⟩⟩
      have nD : H' Dl ≠ none := by rw [at_]; simp
      have keep : ∀ {w9 : Wd} {H9 : Hp}, Step w' H' w9 H9 → w9.G Dl = none ∧ ¬ w9.B Dl ∧ H9 Dl = some (.lst acc) ∧ DRs w9.B w9.G accD acc := fun {w9 H9} s => ⟨s.newG Dl nD b' g', s.newB Dl nD b', s.hh Dl _ at_ b', s.drs r⟩
      refine ttD.use sr3 q3 fun b w4 H4 s4 q4 => ?_
      cases b with
      | true =>
        rw [if_pos rfl] at q4 ⊢
        refine teD.use (sr3.step s4) q4 fun y v w5 H5 s5 r5 ⟨hz, q5⟩ => ?_
        have s9 := ((s2.trans s3).trans s4).trans s5
        obtain ⟨k1, k2, k3, k4⟩ := keep s9
        exact ⟨acc, k3, by rw [← k4.length]; exact hz, w5, accD ++ [y], acc ++ [v], (st.trans s9).privAt hD k1 k2 (fun _ z => by cases z), k1, k2, upd_same, k4.append (DRs.cons r5 DRs.nil), q5⟩
      | false =>
        rw [if_neg Bool.false_ne_true] at q4 ⊢
        have s9 := (s2.trans s3).trans s4
        obtain ⟨k1, k2, k3, k4⟩ := keep s9
        exact ⟨w4, accD, acc, st.trans s9, k1, k2, k3, k4, q4⟩
    · have e : i = items.length := by omega
      subst e
      exact .inl ⟨(jt _ w' H' st.ok st.later (hend _ _ hw).1).1 rfl, kQ _ _ ⟨w', accD, s1.trans st, ⟨Dl, _, rfl, s1.fresh hD, g', b', at_, acc, rfl, r⟩, (hend _ _ hw).2⟩⟩⟩
theorem n_lc (hc : X.calm = true) (hN : X.N.Nodup) (hi : DI X tg iter wi) (ok : BlkOk X.N X.env.scope scope own)
    (hg : ∀ (s : Shared) (H : Hp) (C : Addr) (cl : List (Str × Addr)) (fp : List Addr), @DG XCt.dead (X.blk s H scope (compEnvC scope cl C X.env) fp) tg is g) (ht : ∀ (s : Shared) (H : Hp) (C : Addr) (cl : List (Str × Addr)) (fp : List Addr), @DTs XCt.dead (X.blk s H scope (compEnvC scope cl C X.env) fp) ifs tt)
    (he : ∀ (s : Shared) (H : Hp) (C : Addr) (cl : List (Str × Addr)) (fp : List Addr), @DE XCt.dead (X.blk s H scope (compEnvC scope cl C X.env) fp) elt te) (hsub : ∀ j ∈ is, j ∈ own.map (·.2) := by decide) (hs : ∀ x, foldedSetIterable iter X.env x = pure x := by intro _; rfl) :
    DN X (.ListComp elt [⟨tg, iter, ifs, 0⟩] scope pos) (nLc wi g tt te (own.map (·.2))) :=
  .of (pe_lc hc hN hi.pi ok (fun s H C cl fp => letI := XCt.dead; PG.imp (hg s H C cl fp).pg gD_le) (fun s H C cl fp => letI := XCt.dead; PTs.imp (ht s H C cl fp).pts ttD_le) (fun s H C cl fp => letI := XCt.dead; PE.imp (he s H C cl fp).pe teD_le) hs) fun w w0 H0 σ3 σ H Q sr q => lc_imp hsub sr q fun _ _ ⟨w', ds, z⟩ => ⟨w', .lst ds, z⟩
end
def start3 (N : List Str) (ds : List D) : St3 := ds.map (fun d => some (S3.dat d)) ++ List.replicate (N.length - ds.length) none
theorem start_get {α : Type} {l : List α} {k : Nat} {β : Type} {f : α → β} {i : Nat} {y : β} (h : (l.map (fun a => some (f a)) ++ List.replicate k (none : Option β))[i]? = some (some y)) : ∃ a, l[i]? = some a ∧ y = f a := by
  by_cases hi : i < l.length
  · rw [List.getElem?_append_left (by rw [List.length_map]; exact hi), List.getElem?_map, List.getElem?_eq_getElem hi] at h
    simp only [Option.map_some, Option.some.injEq] at h
    exact ⟨l[i], List.getElem?_eq_getElem hi, h.symm⟩
  · rw [List.getElem?_append_right (by rw [List.length_map]; omega), List.getElem?_replicate] at h
    split at h <;> cases h
theorem SR.start {w : Wd} {H : Hp} {N : List Str} {ds : List D} {vs : List V} (ok : WOk w H) (r : DRs w.B w.G ds vs) : SR ⟨w, w⟩ H w H (start3 N ds) (L2.start N vs) where
  st := ok.refl
  lt := Later.refl
  len := by unfold start3 L2.start; simp only [List.length_append, List.length_map, List.length_replicate, r.length]
  dat := fun i d e => by
    obtain ⟨a, e1, e2⟩ := start_get (f := S3.dat) e
    cases e2
    obtain ⟨v, e3, rv⟩ := r.get e1
    refine ⟨v, ?_, rv⟩
    unfold L2.start
    have hi := (List.getElem?_eq_some_iff.mp e3).1
    rw [List.getElem?_append_left (by rw [List.length_map]; exact hi), List.getElem?_map, e3]; rfl
  own := fun i o e => by
    obtain ⟨a, e1, e2⟩ := start_get (f := S3.dat) e
    cases e2
  inj := fun i j o o' l e _ _ _ => by
    obtain ⟨a, e1, e2⟩ := start_get (f := S3.dat) e
    cases e2
section
variable {P : Program} {wd : World} {K : PySem.W.Frag} {mg : Str → Option Value} {base : Heap} {x qual : Str} {params : Arguments} {body : List Stmt} {scope : Scope} {dvs : List V} {kws : List (Str × V)} {f : Addr} {fd : FuncData} {N ps : List Str} {k : Nat}
omit [XCt] in
/-- THE RULE: a def that hands back data -/
theorem fn3 {sp : Sp3} {t : XCt → TS3} (F : FunD K x qual params body scope dvs kws f fd) (S : FnScope N ps scope) (len : ∀ ds n Q Y, sp ds n Q Y → ds.length = ps.length)
    (hbody : ∀ (xc : XCt) (cdv : Value) (A : Around) (outer : List Env) (s : Shared) (H : Hp) (E : XK), Room k (A.deeper (envOfC qual scope s.heap.objs.size f cdv)) → A.guards = some [] → @DSs xc (cxOf (L2N.CX P wd) P wd K mg base N qual scope f cdv A outer s H E) body (t xc))
    (pure_ : ∀ ds n Q Y, sp ds n Q Y → t ⟨fun e _ n' => Y e n'⟩ { nx := fun _ n' => Q .non n', rt := Q } (start3 N ds) n) : FnG P wd K mg base (L2N.CX P wd) (k + 1) f fd ps (spOf sp) := by
  refine F.okG S (fun vs H Q E ⟨w, ds, Q3, Y, ok, r, h, _⟩ => by rw [← r.length]; exact len _ _ _ _ h) fun cdv A outer s H vs Q E hr hgd ⟨w, ds, Q3, Y, ok, r, h, kk, ke⟩ => ?_
  let X := cxOf (L2N.CX P wd) P wd K mg base N qual scope f cdv A outer s H E
  letI xc : XCt := ⟨fun e _ n' => Y e n'⟩
  have tk : L2N.Takes X (fun cls d _ H' => E cls d H') := L2N.takes_of rfl rfl rfl rfl
  let F : F0 (Wm X) ⟨w, w⟩ := ⟨H, fun e cls d w' σ3 σ H' sr er y => le_wm tk (ke e cls d w' H' sr.st er y)⟩
  refine ⟨_, (hbody xc cdv A outer s H E hr hgd).pss, w, ⟨w, w⟩, F, start3 N ds, _, SR.start ok r, pure_ ds w.n Q3 Y h, ⟨fun σ' H' ⟨w', σ3', sr', _, q⟩ => kk .non .non w' H' sr'.st dr_non q, fun v H' ⟨w', st, z⟩ => (by
    rcases z with ⟨d, dr, q⟩ | ⟨_, _, q⟩
    · exact kk d v w' H' st dr q
    · exact q.elim), fun _ _ ⟨_, _, _, _, q⟩ => q, fun _ _ ⟨_, _, _, _, q⟩ => q⟩⟩
end
end L3
set_option Elab.async false
set_option linter.all false
set_option maxRecDepth 100000
set_option maxHeartbeats 1000000
namespace L3
open PySem PySem.Spec PyProof.Rows L2
variable [XCt]
theorem dr_raw {B : Sh} {G : Hp} {v : V} : DR B G (.raw v) v := by unfold DR; rfl
section
variable {X : Cx} {x : Str} {T : String} {C : Addr} {pos : Pos}
theorem d_bty (hg : Gl X x) (hm : X.mg x = none) (hv : bootBuiltins x = some (.type T)) (hn : x ≠ "__name__" := by decide) (hd : (x == ("__debug__" : Str)) = false := by decide) : DE X (.Name x pos) (dC (.raw (.ty T))) :=
  .of (pe_bltn (v := .ty T) hg hm hv rfl hn hd) fun w _ _ _ _ H Q sr q => ⟨w, _, sr.ok.refl, dr_raw, q⟩
theorem d_cls (hg : Gl X x) (hm : X.mg x = some (.ref C)) (hd : (x == ("__debug__" : Str)) = false := by decide) : DE X (.Name x pos) (dC (.raw (.ref C))) :=
  .of (pe_glob (v := .ref C) hg hm rfl hd) fun w _ _ _ _ H Q sr q => ⟨w, _, sr.ok.refl, dr_raw, q⟩
end
def Mem.up (m : Mem) (n : Nat) : Mem := ⟨n, m.cs⟩
theorem Step.box {w : Wd} {H : Hp} (ok : WOk w H) {b : Addr} (hb : w.B.bx b) {a j k : Int} {n' : Nat} (hn : w.n.n ≤ n') (hk : BoxOk a j k n') : Step w H { w with n := w.n.up n' } (upd H b (.lst [.int a, .int j, .int k])) := by
  obtain ⟨gb, _⟩ := ok.box b hb
  refine ⟨⟨fun x u e => ?_, fun c hc => ?_, fun i c hc => ?_, ok.cnd, ok.cln, fun x xs e => ?_⟩, Ex.refl _, .refl, fun x u e nb => ?_, fun _ _ _ e => e, fun _ _ e => e, hn⟩
  · have ne : x ≠ b := fun z => by
      have e' : w.G x = some u := e
      rw [z, gb] at e'; cases e'
    rw [upd_ne ne]; exact ok.gh x u e
  · obtain ⟨g, a', j', k', e, c1, c2, c3, c4, c5⟩ := ok.box c hc
    refine ⟨g, ?_⟩
    by_cases z : c = b
    · exact ⟨a, j, k, by rw [z, upd_same], hk⟩
    · exact ⟨a', j', k', by rw [upd_ne z]; exact e, c1, c2, c3, c4, by show k' ≤ (n' : Int); omega⟩
  · obtain ⟨nb, ⟨h1, e1⟩, kk⟩ := ok.cel i c hc
    have ne : c ≠ b := fun z => nb (by rw [z]; exact hb)
    exact ⟨nb, ⟨h1, by rw [upd_ne ne]; exact e1⟩, fun o eo => let ⟨g, ho, e2, r⟩ := kk o eo; ⟨g, ho, by rw [upd_ne ne]; exact e2, r⟩⟩
  · by_cases z : x = b
    · rw [z, upd_same] at e; cases e
    · rw [upd_ne z] at e; exact ok.tp x xs e
  · have ne : x ≠ b := fun z => nb (by rw [z]; exact .inl hb)
    rw [upd_ne ne]; exact e
/-- the ghost goes up -/
theorem Step.up {w : Wd} {H : Hp} (ok : WOk w H) {n' : Nat} (hn : w.n.n ≤ n') : Step w H { w with n := w.n.up n' } H := by
  refine ⟨⟨ok.gh, fun c hc => ?_, ok.cel, ok.cnd, ok.cln, ok.tp⟩, Ex.refl _, .refl, fun x u e nb => e, fun _ _ _ e => e, fun _ _ e => e, hn⟩
  obtain ⟨g, a', j', k', e, c1, c2, c3, c4, c5⟩ := ok.box c hc
  exact ⟨g, a', j', k', e, c1, c2, c3, c4, by show k' ≤ (n' : Int); omega⟩
section
variable {X : Cx} {e : Expr} {t : TN3} {te : TE3} {pos : Pos}
/-- a new list becomes a box -/
def dBox (t : TN3) : TE3 := fun σ n Q => t σ n fun o n' => ∃ a j k, o = .lst [.int a, .int j, .int k] ∧ BoxOk a j k n'.n ∧ Q .box n'
theorem d_box (h : DN X e t) : DE X e (dBox t) :=
  ⟨PE.imp h.pe fun σ H Q2 ⟨w, w0, H0, σ3, Q, sr, q, k⟩ => ⟨w, w0, H0, σ3, _, sr, q, fun o v w' H' s nr ⟨a, j, kk, eo, bk, q'⟩ => by
    subst eo
    obtain ⟨l, ho, rfl, hn, g, b, at_, xs, r, t⟩ := nr
    subst r
    obtain ⟨v1, t1, rfl, r1, t⟩ := t.cons_inv
    obtain ⟨v2, t2, rfl, r2, t⟩ := t.cons_inv
    obtain ⟨v3, t3, rfl, r3, t⟩ := t.cons_inv
    have e4 := t.nil_inv
    subst e4
    unfold DR at r1 r2 r3
    subst r1 r2 r3
    have st' : Step w H { w' with B := ⟨fun c => c = l ∨ w'.B.bx c, w'.B.ad⟩ } H' := by
      have le : w'.B.Le ⟨fun c => c = l ∨ w'.B.bx c, w'.B.ad⟩ := ⟨fun c hc => .inr hc, List.prefix_refl _⟩
      refine ⟨⟨s.ok.gh, fun c hc => ?_, fun i c hc => ?_, s.ok.cnd, s.ok.cln, s.ok.tp⟩, s.gg, s.bb.trans le, s.hh, s.newG, fun c hc nb z => ?_, s.nn⟩
      · rcases hc with hc | hc
        · subst hc; exact ⟨g, a, j, kk, at_, bk⟩
        · exact s.ok.box c hc
      · obtain ⟨nb, h1, kk⟩ := s.ok.cel i c hc
        exact ⟨fun z => z.elim (fun z => b (by rw [← z]; exact .inr (List.mem_of_getElem? hc))) nb, h1, fun o1 eo => let ⟨g', ho1, e2, r1⟩ := kk o1 eo; ⟨g', ho1, e2, r1.mono (Ex.refl _) le⟩⟩
      · rcases z with (z | z) | z
        · subst z; exact hc hn
        · exact s.newB c hc nb (.inl z)
        · exact s.newB c hc nb (.inr z)
    exact k .box (.ref l) _ H' st' (by unfold DR; exact ⟨l, rfl, .inl rfl⟩) q'⟩⟩
/-- box[i] -/
def dBoxIx (i : Nat) (te : TE3) : TE3 := fun σ n Q => te σ n fun d n1 => d = .box ∧ ∀ a j k, BoxOk a j k n1.n → Q (.int ([a, j, k].getD i 0)) n1
theorem d_boxIx {i : Nat} {j p} (h : DE X e te) (hi : i < 3 := by decide) (hs : PlainIx (Expr.Constant (.int (i : Int)) j p) := by exact fun _ _ => rfl) : DE X (.Subscript e (.Constant (.int (i : Int)) j p) pos) (dBoxIx i te) :=
  .of (pe_ix (r := rIx X.K) ix_seq h.pe pe_int hs) fun w w0 H0 σ3 σ H Q sr q => teOf.use sr q fun d v w1 H1 s1 r1 ⟨ed, q1⟩ => by
    subst ed
    unfold DR at r1
    obtain ⟨b, rfl, hb⟩ := r1
    obtain ⟨g, a, jj, k, eh, bk⟩ := s1.ok.box b hb
    have ei : atI [V.int a, V.int jj, V.int k] (i : Int) = some (.int ([a, jj, k].getD i 0)) := by
      match i, hi with
      | 0, _ => rfl
      | 1, _ => rfl
      | 2, _ => rfl
    exact .inl ⟨b, [.int a, .int jj, .int k], (i : Int), .int ([a, jj, k].getD i 0), rfl, rfl, SqL.of eh, ei, w1, _, s1, dr_int, q1 a jj k bk⟩
/-- box[i] = e -/
def dBoxSet (p i : Nat) (tv : TE3) : TS3 := fun E σ n => tv σ n fun d n1 => ∃ (x : Int) (n2 : Nat), d = .int x ∧ σ[p]? = some (some (S3.dat .box)) ∧ n1.n ≤ n2 ∧
  (∀ a j k, BoxOk a j k n1.n → BoxOk (if i = 0 then x else a) (if i = 1 then x else j) (if i = 2 then x else k) n2) ∧ E.nx σ (n1.up n2)
theorem ds_boxSet {st : Stmt} {p i : Nat} {tv : TE3} (hp : PS X st (tAsg (teOf X tv) (gSub (tVar p) (tC (.int (i : Int))) rSetL))) (hi : i < 3 := by decide) : DS X st (dBoxSet p i tv) :=
  .of hp fun w w0 H0 σ3 σ H E sr q => teOf.use sr q fun d v w1 H1 s1 dr ⟨x, n2, ed, eb, hn, hk, q1⟩ => by
    subst ed
    unfold DR at dr
    subst dr
    obtain ⟨u, eu, ru⟩ := (sr.step s1).dat p _ eb
    unfold DR at ru
    obtain ⟨b, rfl, hb⟩ := ru
    obtain ⟨g, a, j, k, eh, bk⟩ := s1.ok.box b hb
    refine ⟨_, eu, b, [.int a, .int j, .int k], (i : Int), i, rfl, rfl, eh, ?_, ?_⟩
    · match i, hi with
      | 0, _ => rfl
      | 1, _ => rfl
      | 2, _ => rfl
    · have st := Step.box s1.ok hb hn (hk a j k bk)
      have el : [V.int a, V.int j, V.int k].set i (V.int x) = [.int (if i = 0 then x else a), .int (if i = 1 then x else j), .int (if i = 2 then x else k)] := by
        match i, hi with
        | 0, _ => rfl
        | 1, _ => rfl
        | 2, _ => rfl
      rw [el]
      exact ⟨_, σ3, (sr.step s1).step st, s1.later.trans st.later, q1⟩
end
end L3
set_option Elab.async false
set_option linter.all false
set_option maxRecDepth 100000
set_option maxHeartbeats 1000000
namespace L3
open PySem PySem.Spec PyProof.Rows L2
variable [XCt]
section
variable {X : Cx}
def rDGet : R2 := fun x y H Q => ∃ a v, x = V.ref a ∧ DGet H a y (some v) ∧ Q v H
theorem ix_dict (hu : X.A.units + 1 < cLine) : IxR X rDGet := by
  intro value slice pins s σ H x y v u Q I rx ry h hs
  obtain ⟨a, z, rfl, g, q⟩ := h
  cases rx
  exact tail_any (dict_typeIs I g) PySem.F.slot_dict_getitem.lookup (d_getItem hu I g ry fun w' s' I' rw' => ⟨z, H, I', rw', q⟩) hs
def rDIn (neg : Bool) : R2 := fun x y H Q => ∃ a o, y = V.ref a ∧ DGet H a x o ∧ Q (.bl (if neg then !o.isSome else o.isSome)) H
theorem op_dIn (hu : X.A.units + 1 < cLine) : OpR X (compareOp .In) (rDIn false) := by
  intro pins s σ H x y v u Q I rx ry h
  obtain ⟨a, o, rfl, g, q⟩ := h
  cases ry
  exact d_in hu I g rx fun s3 I3 => ⟨.bl o.isSome, H, I3, rfl, q⟩
theorem op_dNotIn (hu : X.A.units + 1 < cLine) : OpR X (compareOp .NotIn) (rDIn true) := by
  intro pins s σ H x y v u Q I rx ry h
  obtain ⟨a, o, rfl, g, q⟩ := h
  cases ry
  exact d_notIn hu I g rx fun s3 I3 => ⟨.bl (!o.isSome), H, I3, rfl, q⟩
/-- keys -/
def D.key : D → Option Key
  | .int i => some (.inl i)
  | .str x => some (.inr x)
  | _ => none
def D.keys : List D → Option (List Key)
  | [] => some []
  | d :: ds => match d.key, D.keys ds with
    | some k, some ks => some (k :: ks)
    | _, _ => none
def D.keyT : D → Option (List Key)
  | .tup ds => D.keys ds
  | _ => none
def lk {κ : Type} [DecidableEq κ] : List κ → List D → κ → Option D
  | k :: ks, d :: ds, z => if k = z then some d else lk ks ds z
  | _, _, _ => none
/-- d[y]: none where it is no question -/
def D.get : D → D → Option (Option D)
  | .dk ks ds, y => y.key.map (lk ks ds)
  | .dt ks ds, y => y.keyT.map (lk ks ds)
  | _, _ => none
theorem VR.key {w : Wd} {H : Hp} {d : D} {v : V} {k : Key} (h : VR w H d v) (e : d.key = some k) : v = kV k := by
  unfold D.key at e
  split at e
  · cases e; exact h.int
  · cases e; exact h.str
  · cases e
theorem DR.key {B : Sh} {G : Hp} {d : D} {v : V} {k : Key} (h : DR B G d v) (e : d.key = some k) : v = kV k := by
  unfold D.key at e
  split at e
  · cases e; unfold DR at h; exact h
  · cases e; unfold DR at h; exact h.1
  · cases e
theorem DRs.keys {B : Sh} {G : Hp} : ∀ {ds : List D} {vs : List V} {ks : List Key}, DRs B G ds vs → D.keys ds = some ks → vs = ks.map kV
  | [], vs, ks, h, e => by
    unfold D.keys at e
    cases e
    exact h.nil_inv
  | d :: ds, vs, ks, h, e => by
    obtain ⟨v, ws, rfl, r, t⟩ := h.cons_inv
    unfold D.keys at e
    split at e
    · rename_i k ks' e1 e2
      cases e
      rw [r.key e1, DRs.keys t e2]; rfl
    · cases e
theorem lk_at {κ : Type} [DecidableEq κ] {B : Sh} {G : Hp} {z : κ} : ∀ {kvs : List (κ × V)} {ds : List D}, DRs B G ds (kvs.map (·.2)) → (lk (kvs.map (·.1)) ds z = none ∧ valV kvs z = none) ∨ ∃ d v, lk (kvs.map (·.1)) ds z = some d ∧ valV kvs z = some v ∧ DR B G d v
  | [], ds, t => by
    have e := t.length
    simp at e
    subst e
    exact .inl ⟨rfl, rfl⟩
  | (k, v) :: kvs, [], t => by
    have e := t.length
    simp at e
  | (k, v) :: kvs, d :: ds, t => by
    obtain ⟨u, ws, e, r, t'⟩ := t.cons_inv
    simp only [List.map_cons, List.cons.injEq] at e
    obtain ⟨e1, e2⟩ := e
    subst e1; subst e2
    by_cases q : k = z
    · exact .inr ⟨d, v, by show (if k = z then some d else _) = some d; rw [if_pos q], valV_pos (p := (k, v)) q, r⟩
    · have e3 : lk ((k, v) :: kvs |>.map (·.1)) (d :: ds) z = lk (kvs.map (·.1)) ds z := by
        show (if k = z then some d else _) = _
        rw [if_neg q]
      rw [e3, valV_neg (p := (k, v)) q]
      exact lk_at t'
theorem VR.get {w : Wd} {H : Hp} {d y : D} {v u : V} {o : Option D} (ok : WOk w H) (h : VR w H d v) (hy : VR w H y u) (e : d.get y = some o) :
    ∃ a ov, v = .ref a ∧ DGet H a u ov ∧ ov.isSome = o.isSome ∧ ∀ z, o = some z → ∃ x, ov = some x ∧ DR w.B w.G z x := by
  unfold D.get at e
  split at e
  · obtain ⟨a, kvs, ev, hh, ek, _, t⟩ := h.dk ok
    obtain ⟨k, hk, e⟩ := Option.map_eq_some_iff.mp e
    have eu := hy.key hk
    subst eu ek
    subst e
    refine ⟨a, valV kvs k, ev, .inl ⟨kvs, k, hh, rfl, rfl⟩, ?_, fun z ez => ?_⟩
    · rcases lk_at (z := k) t with ⟨e1, e2⟩ | ⟨d', v', e1, e2, _⟩
      · rw [e1, e2]; rfl
      · rw [e1, e2]; rfl
    · rcases lk_at (z := k) t with ⟨e1, e2⟩ | ⟨d', v', e1, e2, r⟩
      · rw [e1] at ez; cases ez
      · rw [e1] at ez
        cases ez
        exact ⟨v', e2, r⟩
  · obtain ⟨a, kvs, ev, hh, ek, _, t⟩ := h.dt ok
    obtain ⟨k, hk, e⟩ := Option.map_eq_some_iff.mp e
    cases y with
    | tup ds =>
      obtain ⟨b, xs, eb, _, hb, t2⟩ := hy.tup ok
      have eu := t2.keys (show D.keys ds = some k from hk)
      subst eu ek
      rename_i e3
      subst e3
      refine ⟨a, valV kvs k, ev, .inr ⟨kvs, k, b, hh, eb, hb, rfl⟩, ?_, fun z ez => ?_⟩
      · rcases lk_at (z := k) t with ⟨e1, e2⟩ | ⟨d', v', e1, e2, _⟩
        · rw [e1, e2]; rfl
        · rw [e1, e2]; rfl
      · rcases lk_at (z := k) t with ⟨e1, e2⟩ | ⟨d', v', e1, e2, r⟩
        · rw [e1] at ez; cases ez
        · rw [e1] at ez
          cases ez
          exact ⟨v', e2, r⟩
    | _ => cases hk
  · cases e
/-- y in x, x anything that has items -/
def rInA3 (neg : Bool) : R23 := fun x y n Q => match y with
  | .dk ks ds => ∃ o, D.get (.dk ks ds) x = some o ∧ Q (.bl (if neg then !o.isSome else o.isSome)) n
  | .dt ks ds => ∃ o, D.get (.dt ks ds) x = some o ∧ Q (.bl (if neg then !o.isSome else o.isSome)) n
  | y => rIn3 neg x y n Q
theorem opi_inA {r : R2} {neg : Bool} (i : OpI r (rIn3 neg)) : OpI (fun x y H Q => rDIn neg x y H Q ∨ r x y H Q) (rInA3 neg) := by
  intro w H x y dx dy Q ok rx ry h
  unfold rInA3 at h
  split at h
  · obtain ⟨o, e, q⟩ := h
    obtain ⟨a, ov, ev, g, es, _⟩ := ry.get ok rx e
    exact .inl ⟨a, ov, ev, g, w, _, ok.refl, dr_bl, by rw [es]; exact q⟩
  · obtain ⟨o, e, q⟩ := h
    obtain ⟨a, ov, ev, g, es, _⟩ := ry.get ok rx e
    exact .inl ⟨a, ov, ev, g, w, _, ok.refl, dr_bl, by rw [es]; exact q⟩
  · exact .inr (i w H x y dx dy Q ok rx ry h)
theorem od_inA (hu : X.A.units + 65 < cLine) : OpD X (compareOp .In) (rInA3 false) := by
  obtain ⟨r, hr, i⟩ := (od_in (X := X) hu).ex
  exact ⟨_, (op_dIn (by omega)).or hr, opi_inA i⟩
theorem od_notinA (hu : X.A.units + 65 < cLine) : OpD X (compareOp .NotIn) (rInA3 true) := by
  obtain ⟨r, hr, i⟩ := (od_notin (X := X) hu).ex
  exact ⟨_, (op_dNotIn (by omega)).or hr, opi_inA i⟩
/-- x[y], x a dict too, or the script -/
def rIxA3 (K : PySem.W.Frag) : R23 := fun x y n Q => match x with
  | .dk ks ds => ∃ o, D.get (.dk ks ds) y = some (some o) ∧ Q o n
  | .dt ks ds => ∃ o, D.get (.dt ks ds) y = some (some o) ∧ Q o n
  | .scr K' ns => K' = K ∧ ∃ i j, y = .int i ∧ atI ns i = some j ∧ Q (.int j) n
  | x => rIx3 x y n Q
theorem atI_map {α β : Type} {f : α → β} {xs : List α} {i : Int} {x : α} (h : atI xs i = some x) : atI (xs.map f) i = some (f x) := by
  unfold atI at *
  rw [List.length_map]
  cases e : ixN xs.length i with
  | none => rw [e] at h; cases h
  | some j =>
    rw [e] at h
    have h : xs[j]? = some x := h
    show (xs.map f)[j]? = some (f x)
    rw [List.getElem?_map, h]; rfl
theorem vr_scr {w : Wd} {H : Hp} {K : PySem.W.Frag} {ns : List Int} {v : V} (ok : WOk w H) (h : VR w H (.scr K ns) v) : ∃ a, v = .ref a ∧ SqL K H a (ns.map V.int) := by
  rcases h with h | ⟨l, o, ho, e1, e2, _⟩
  · unfold DR at h
    obtain ⟨a, e, q⟩ := h
    exact ⟨a, e, ok.gh.l q⟩
  · cases o <;> cases e2
theorem IxR.or {r r' : R2} (h : IxR X r) (h' : IxR X r') : IxR X (fun x y H Q => r x y H Q ∨ r' x y H Q) := by
  intro value slice pins s σ H x y v u Q I rx ry q hs
  rcases q with q | q
  · exact h value slice pins s σ H x y v u Q I rx ry q hs
  · exact h' value slice pins s σ H x y v u Q I rx ry q hs
theorem ixiA : OpI (fun x y H Q => rDGet x y H Q ∨ rIx X.K x y H Q) (rIxA3 X.K) := by
  intro w H x y dx dy Q ok rx ry h
  unfold rIxA3 at h
  split at h
  · obtain ⟨o, e, q⟩ := h
    obtain ⟨a, ov, ev, g, es, z⟩ := rx.get ok ry e
    obtain ⟨x', ex, r⟩ := z o rfl
    subst ex
    exact .inl ⟨a, x', ev, g, w, _, ok.refl, r, q⟩
  · obtain ⟨o, e, q⟩ := h
    obtain ⟨a, ov, ev, g, es, z⟩ := rx.get ok ry e
    obtain ⟨x', ex, r⟩ := z o rfl
    subst ex
    exact .inl ⟨a, x', ev, g, w, _, ok.refl, r, q⟩
  · obtain ⟨eK, i, j, ey, e, q⟩ := h
    subst eK ey
    obtain ⟨a, ev, hs⟩ := vr_scr ok rx
    exact .inr (.inl ⟨a, _, i, .int j, ev, ry.int, hs, atI_map (f := V.int) e, w, _, ok.refl, dr_int, q⟩)
  · exact .inr (ixi w H x y dx dy Q ok rx ry h)
variable {a b e : Expr} {ta tb te : TE3} {pos : Pos}
theorem d_ixA (hu : X.A.units + 1 < cLine) (ha : DV X a ta) (hb : DV X b tb) (hs : PlainIx b := by exact fun _ _ => rfl) : DE X (.Subscript a b pos) (dOp (rDer (rIxA3 X.K)) ta tb) :=
  .of (pe_ix (r := fun x y H Q => ∃ Q', (∀ v H', Q' v H' → Q v H') ∧ (rDGet x y H Q' ∨ rIx X.K x y H Q')) (ixr_more ((ix_dict hu).or ix_seq)) ha.pe hb.pe hs) fun w w0 H0 σ3 σ H Q sr h => by
    exact tvOf.use sr h fun dx x w1 H1 s1 r1 q1 => tvOf.use (sr.step s1) q1 fun dy y w2 H2 s2 r2 q2 => ⟨_, fun v H' ⟨w', d, s3, dr, q⟩ => ⟨w', d, (s1.trans s2).trans s3, dr, q⟩, OpI.der ixiA w2 H2 x y dx dy _ (s2.ok) (r1.step s2) r2 q2⟩
end
end L3
set_option Elab.async false
set_option linter.all false
set_option maxRecDepth 100000
set_option maxHeartbeats 1000000
namespace L3
open PySem PySem.Spec PyProof.Rows L2
variable [XCt]
def D.ty : D → Option Value
  | .non => some (.type "NoneType")
  | .bl _ => some (.type "bool")
  | .int _ => some (.type "int")
  | .str _ => some (.type "str")
  | .lst _ => some (.type "list")
  | .tup _ => some (.type "tuple")
  | .dk _ _ => some (.type "dict")
  | .dt _ _ => none
  | .obj C _ _ => some (.ref C)
  | .box => some (.type "list")
  | .raw _ => none
  | .scr _ _ => none
  | .cel _ => none
  | .exn _ _ _ _ _ => none
  | .exd _ _ _ _ => none
theorem VR.tyx {w : Wd} {H : Hp} {K : PySem.W.Frag} {d : D} {v : V} {t : Value} (ok : WOk w H) (h : VR w H d v) (e : d.ty = some t) (ho : ∀ C ns ds, d = .obj C ns ds → C8.InsC K C) : TyX K H v t := by
  cases d with
  | non => cases e; rw [h.non]; exact .base .non
  | bl b => cases e; rw [h.bl]; exact .base (.bl b)
  | int b => cases e; rw [h.int]; exact .base (.int b)
  | str b => cases e; rw [h.str]; exact .base (.str b)
  | lst b => cases e; obtain ⟨a, xs, e, q, _⟩ := h.lst ok; subst e; exact .base (.lst q)
  | tup b => cases e; obtain ⟨a, xs, e, _, q, _⟩ := h.tup ok; subst e; exact .base (.tup q)
  | dk b c => cases e; obtain ⟨a, xs, e, q, _⟩ := h.dk ok; subst e; rcases q with q | ⟨od, q⟩; exact .base (.dK q); exact .fDict q
  | dt b c => cases e
  | obj C b c =>
    cases e
    obtain ⟨a, dx, xs, e, q, _⟩ := h.obj ok
    subst e
    have z := ho C b c rfl
    exact .base (.ins q z.cl z.ha z.hn z.htk z.hm)
  | box =>
    cases e
    rcases h with h | ⟨l, o, ho, e1, e2, _⟩
    · unfold DR at h
      obtain ⟨b, rfl, hb⟩ := h
      obtain ⟨_, a, j, k, q, _⟩ := ok.box b hb
      exact .base (.lst q)
    · cases o <;> cases e2
  | raw v => cases e
  | scr _ _ => cases e
  | cel _ => cases e
  | exn _ _ _ _ _ => cases e
  | exd _ _ _ _ => cases e
/-- what isinstance(d, u) answers -/
structure IsP (K : PySem.W.Frag) (u : Value) (p : D → Option Bool) : Prop where
  h : ∀ d b, p d = some b → ∃ t, d.ty = some t ∧ PySem.W.kitOne K t u = some b ∧ ∀ C ns ds, d = .obj C ns ds → C8.InsC K C
/-- own classes whose instances may come, by a built-in type -/
structure OwnB (K : PySem.W.Frag) (T : String) (Cs : List Addr) : Prop where
  h : ∀ C, C ∈ Cs → C8.InsC K C ∧ PySem.W.kitOne K (.ref C) (.type T) = some false
def D.isInt : D → Bool | .bl _ => true | .int _ => true | _ => false
def D.isBl : D → Bool | .bl _ => true | _ => false
def D.isStr : D → Bool | .str _ => true | _ => false
def D.isLst : D → Bool | .lst _ => true | .box => true | _ => false
def D.isTup : D → Bool | .tup _ => true | _ => false
def D.isDct : D → Bool | .dk _ _ => true | .dt _ _ => true | _ => false
def pB (f : D → Bool) (Cs : List Addr) : D → Option Bool
  | .raw _ => none
  | .scr _ _ => none
  | .cel _ => none
  | .exn _ _ _ _ _ => none
  | .exd _ _ _ _ => none
  | .dt _ _ => none
  | .obj C ns ds => if C ∈ Cs then some false else none
  | d => some (f d)
section
variable {K : PySem.W.Frag} {Cs : List Addr} {T : String} {f : D → Bool}
theorem pB_ok (o : OwnB K T Cs) (hf : ∀ d n, d.ty = some (.type n) → kitB n T = some (f d)) : IsP K (.type T) (pB f Cs) := ⟨fun d b e => by
  cases d with
  | raw _ => cases e
  | scr _ _ => cases e
  | cel _ => cases e
  | exn _ _ _ _ _ => cases e
  | exd _ _ _ _ => cases e
  | obj C ns ds =>
    have e : (if C ∈ Cs then some false else none) = some b := e
    by_cases h : C ∈ Cs
    · rw [if_pos h] at e
      cases e
      obtain ⟨a, z⟩ := o.h C h
      exact ⟨_, rfl, z, fun C' _ _ e => by cases e; exact a⟩
    · rw [if_neg h] at e; cases e
  | non => cases e; exact ⟨_, rfl, kit_ty (hf _ _ rfl), fun _ _ _ e => by cases e⟩
  | bl _ => cases e; exact ⟨_, rfl, kit_ty (hf _ _ rfl), fun _ _ _ e => by cases e⟩
  | int _ => cases e; exact ⟨_, rfl, kit_ty (hf _ _ rfl), fun _ _ _ e => by cases e⟩
  | str _ => cases e; exact ⟨_, rfl, kit_ty (hf _ _ rfl), fun _ _ _ e => by cases e⟩
  | lst _ => cases e; exact ⟨_, rfl, kit_ty (hf _ _ rfl), fun _ _ _ e => by cases e⟩
  | tup _ => cases e; exact ⟨_, rfl, kit_ty (hf _ _ rfl), fun _ _ _ e => by cases e⟩
  | dk _ _ => cases e; exact ⟨_, rfl, kit_ty (hf _ _ rfl), fun _ _ _ e => by cases e⟩
  | dt _ _ => cases e
  | box => cases e; exact ⟨_, rfl, kit_ty (hf _ _ rfl), fun _ _ _ e => by cases e⟩⟩
theorem is_lst (o : OwnB K "list" Cs) : IsP K (.type "list") (pB D.isLst Cs) := pB_ok o fun d n e => by cases d <;> cases e <;> (first | (show kitB _ _ = some true; decide +kernel) | (show kitB _ _ = some false; decide +kernel))
theorem is_dct (o : OwnB K "dict" Cs) : IsP K (.type "dict") (pB D.isDct Cs) := pB_ok o fun d n e => by cases d <;> cases e <;> (first | (show kitB _ _ = some true; decide +kernel) | (show kitB _ _ = some false; decide +kernel))
/-- an own class -/
def pO (C : Addr) (Cs : List Addr) : D → Option Bool
  | .raw _ => none
  | .scr _ _ => none
  | .cel _ => none
  | .exn _ _ _ _ _ => none
  | .exd _ _ _ _ => none
  | .dt _ _ => none
  | .obj C' ns ds => if C' ∈ Cs then some (decide (C' = C)) else none
  | _ => some false
end
section
variable {X : Cx}
def rIsi3 (p : D → Option Bool) (cv : V) : RC3 := fun ds n Q => ∃ x b, ds = [x, .raw cv] ∧ p x = some b ∧ Q (.bl b) n
theorem vrs2 {w : Wd} {H : Hp} {d e : D} {vs : List V} (h : VRs w H [d, e] vs) : ∃ v u, vs = [v, u] ∧ VR w H d v ∧ VR w H e u := by
  obtain ⟨v, ws, rfl, r, u, us, rfl, r2, e⟩ := h
  have e : us = [] := e
  subst e
  exact ⟨v, u, rfl, r, r2⟩
theorem vrs1 {w : Wd} {H : Hp} {d : D} {vs : List V} (h : VRs w H [d] vs) : ∃ v, vs = [v] ∧ VR w H d v := by
  obtain ⟨v, ws, rfl, r, e⟩ := h
  have e : ws = [] := e
  subst e
  exact ⟨v, rfl, r⟩
theorem vr_raw {w : Wd} {H : Hp} {u v : V} (h : VR w H (.raw u) v) : v = u := by
  rcases h with h | ⟨l, o, ho, e1, e2, _⟩
  · unfold DR at h; exact h
  · cases o <;> cases e2
/-- two classes -/
def rIsi23 (p q : D → Option Bool) (c1 c2 : V) : RC3 := fun ds n Q => ∃ x a b, ds = [x, .tup [.raw c1, .raw c2]] ∧ p x = some a ∧ q x = some b ∧ Q (.bl (a || b)) n
end
end L3
set_option Elab.async false
set_option linter.all false
set_option maxRecDepth 100000
set_option maxHeartbeats 1000000
namespace L3
open PySem PySem.Spec PyProof.Rows L2
variable [XCt]
section
variable {X : Cx}
theorem CallD.imp {f : Value} {r3 r3' : RC3} (h : CallD X f r3) (i : ∀ ds n Q, r3' ds n Q → r3 ds n Q) : CallD X f r3' := by
  obtain ⟨r, hr, k⟩ := h.ex
  exact ⟨r, hr, fun w H vs ds Q ok v q => k w H vs ds Q ok v (i ds w.n Q q)⟩
theorem CallD.or {f : Value} {r3 r3' : RC3} (h : CallD X f r3) (h' : CallD X f r3') : CallD X f (fun ds n Q => r3 ds n Q ∨ r3' ds n Q) := by
  obtain ⟨r, hr, k⟩ := h.ex
  obtain ⟨r', hr', k'⟩ := h'.ex
  exact ⟨_, hr.or hr', fun w H vs ds Q ok v q => q.elim (fun q => .inl (k w H vs ds Q ok v q)) fun q => .inr (k' w H vs ds Q ok v q)⟩
/-- len -/
def D.len : D → Option Nat
  | .lst ds => some ds.length
  | .tup ds => some ds.length
  | .str z => if z.length ≤ sizeLine then some z.length else none
  | .scr _ ns => some ns.length
  | .dk ks _ => some ks.length
  | .dt ks _ => some ks.length
  | _ => none
def D.scrOk (K : PySem.W.Frag) : D → Prop
  | .scr K' _ => K' = K
  | _ => True
def rLen3 (K : PySem.W.Frag) : RC3 := fun ds n Q => ∃ d k, ds = [d] ∧ d.scrOk K ∧ d.len = some k ∧ Q (.int (k : Nat)) n
theorem call_lenRd : CallR X (.builtin "len") (fun xs H Q => ∃ a kvs, xs = [V.ref a] ∧ Rd H a (.dK kvs) ∧ Q (.int kvs.length) H) := by
  intro pins s σ H xs us Q I r h
  obtain ⟨a, kvs, rfl, ha, q⟩ := h
  obtain ⟨u, rfl, ru⟩ := vals1 r
  cases ru
  exact d_len I ha fun t s' I' => ⟨.int kvs.length, H, I', ⟨t, rfl⟩, q⟩
theorem call_lenTd : CallR X (.builtin "len") (fun xs H Q => ∃ p kvs, xs = [V.ref p] ∧ Rd H p (.dT kvs) ∧ Q (.int kvs.length) H) := by
  intro pins s σ H xs us Q I r h
  obtain ⟨p, kvs, rfl, hp, q⟩ := h
  obtain ⟨u, rfl, rx⟩ := vals1 r
  obtain rfl : u = .ref p := rx
  obtain ⟨z, hd, ys, rel, dd⟩ := dt_rd I.hok hp
  have hl : kvs.length = ys.length := Paired.length rel
  have hn := line63
  refine PySem.call_len_dictH hd dd (by omega) ⟨.int kvs.length, H, I.tok _, ⟨_, by rw [hl]⟩, q⟩
def rLenA (K : PySem.W.Frag) : List V → Hp → VK → Prop := fun xs H Q => (∃ x n, xs = [x] ∧ LenV K x H n ∧ Q (.int n) H) ∨ (∃ a kvs, xs = [V.ref a] ∧ Rd H a (.dK kvs) ∧ Q (.int kvs.length) H) ∨ ∃ p kvs, xs = [V.ref p] ∧ Rd H p (.dT kvs) ∧ Q (.int kvs.length) H
theorem cd_len : CallD X (.builtin "len") (rLen3 X.K) :=
  ⟨rLenA X.K, call_len.or (call_lenRd.or call_lenTd), fun w H vs ds Q ok h ⟨d, k, ed, es, el, q⟩ => by
    subst ed
    obtain ⟨v, rfl, r⟩ := vrs1 h
    cases d with
    | lst ds =>
      cases el
      obtain ⟨a, xs, rfl, hh, t⟩ := r.lst ok
      exact .inl ⟨_, xs.length, rfl, .inl ⟨xs, SqL.of hh, rfl⟩, w, _, ok.refl, by rw [← t.length]; exact dr_int, q⟩
    | tup ds =>
      cases el
      obtain ⟨a, xs, rfl, _, hh, t⟩ := r.tup ok
      exact .inl ⟨_, xs.length, rfl, .inr ⟨xs, SqT.of hh, rfl⟩, w, _, ok.refl, by rw [← t.length]; exact dr_int, q⟩
    | str z =>
      have el : (if z.length ≤ sizeLine then some z.length else none) = some k := el
      by_cases hz : z.length ≤ sizeLine
      · rw [if_pos hz] at el
        cases el
        rw [r.str]
        exact .inl ⟨_, z.length, rfl, ⟨hz, rfl⟩, w, _, ok.refl, dr_int, q⟩
      · rw [if_neg hz] at el; cases el
    | scr K' ns =>
      cases el
      have es : K' = X.K := es
      subst es
      obtain ⟨a, rfl, hs⟩ := vr_scr ok r
      exact .inl ⟨_, ns.length, rfl, .inl ⟨_, hs, by rw [List.length_map]⟩, w, _, ok.refl, dr_int, q⟩
    | dk ks ds =>
      cases el
      obtain ⟨a, kvs, rfl, hh, ek, _, t⟩ := r.dk ok
      exact .inr (.inl ⟨a, kvs, rfl, hh, w, _, ok.refl, dr_int, by rw [← ek, List.length_map] at q; exact q⟩)
    | dt ks ds =>
      cases el
      obtain ⟨a, kvs, rfl, hh, ek, _, t⟩ := r.dt ok
      exact .inr (.inr ⟨a, kvs, rfl, hh, w, _, ok.refl, dr_int, by rw [← ek, List.length_map] at q; exact q⟩)
    | _ => cases el⟩
/-- all, any of a list of truths -/
def rAll3 (g : List Bool → Bool) : RC3 := fun ds n Q => ∃ bs : List Bool, ds = [.lst (bs.map .bl)] ∧ Q (.bl (g bs)) n
def rInt23 (g : Int → Int → Int) : RC3 := fun ds n Q => ∃ i j, ds = [.int i, .int j] ∧ Q (.int (g i j)) n
theorem cd_max2 (hc : X.calm = true) : CallD X (.builtin "max") (rInt23 fun i j => if j > i then j else i) :=
  ⟨_, call_max2 hc, fun w H vs ds Q ok h ⟨i, j, ed, q⟩ => by
    subst ed
    obtain ⟨v, u, rfl, r1, r2⟩ := vrs2 h
    rw [r1.int, r2.int]
    exact ⟨i, j, rfl, w, _, ok.refl, dr_int, q⟩⟩
theorem cd_min2 (hc : X.calm = true) : CallD X (.builtin "min") (rInt23 fun i j => if j < i then j else i) :=
  ⟨_, call_min2 hc, fun w H vs ds Q ok h ⟨i, j, ed, q⟩ => by
    subst ed
    obtain ⟨v, u, rfl, r1, r2⟩ := vrs2 h
    rw [r1.int, r2.int]
    exact ⟨i, j, rfl, w, _, ok.refl, dr_int, q⟩⟩
def rAbs3 : RC3 := fun ds n Q => ∃ i, ds = [.int i] ∧ Q (.int (if i < 0 then -i else i)) n
theorem cd_abs : CallD X (.builtin "abs") rAbs3 :=
  ⟨_, call_abs, fun w H vs ds Q ok h ⟨i, ed, q⟩ => by
    subst ed
    obtain ⟨v, rfl, r1⟩ := vrs1 h
    rw [r1.int]
    exact ⟨i, rfl, w, _, ok.refl, dr_int, q⟩⟩
def rStrInt3 : RC3 := fun ds n Q => ∃ i : Int, ds = [.int i] ∧ i.natAbs.log2 < 1920 ∧ PyData.strOk (Str.ofString (toString i)) = true ∧ Q (.str (Str.ofString (toString i))) n
def rIntStr3 : RC3 := fun ds n Q => ∃ a i, ds = [.str a] ∧ PySem.intText? a = some i ∧ a.length ≤ 640 ∧ Q (.int i) n
/-- tuple(x) -/
def D.items : D → Option (List D)
  | .lst ds => some ds
  | .tup ds => some ds
  | _ => none
def rTup3 : RC3 := fun ds n Q => ∃ d xs, ds = [d] ∧ d.items = some xs ∧ Q (.tup xs) n
variable {e o : Expr} {te to : TE3} {x : Str} {p pos apos : Pos} {t : TA3}
end
end L3
set_option Elab.async false
set_option linter.all false
set_option maxRecDepth 100000
set_option maxHeartbeats 1000000
namespace L2
open PySem PySem.Spec PyProof.Rows PySem.Calls
end L2
set_option Elab.async false
set_option linter.all false
set_option maxRecDepth 100000
set_option maxHeartbeats 1000000
namespace L3
open PySem PySem.Spec PyProof.Rows L2
variable [XCt]
def keyD : Key → D
  | .inl i => .int i
  | .inr x => .str x
def D.keysD : D → Option (List D)
  | .dk ks _ => some (ks.map keyD)
  | .dt ks _ => some (ks.map fun k => .tup (k.map keyD))
  | _ => none
end L3
set_option Elab.async false
set_option linter.all false
set_option maxRecDepth 100000
set_option maxHeartbeats 1000000
namespace L3
open PySem PySem.Spec PyProof.Rows L2
variable [XCt]
theorem D.key_ok {B : Sh} {G : Hp} {d : D} {v : V} {k : Key} (h : DR B G d v) (e : d.key = some k) : kOk k = true := by
  unfold D.key at e
  split at e
  · cases e; rfl
  · cases e; unfold DR at h; exact h.2
  · cases e
theorem D.keys_ok {B : Sh} {G : Hp} : ∀ {ds : List D} {vs : List V} {ks : List Key}, DRs B G ds vs → D.keys ds = some ks → ks.all kOk = true
  | [], vs, ks, h, e => by unfold D.keys at e; cases e; rfl
  | d :: ds, vs, ks, h, e => by
    obtain ⟨v, ws, rfl, r, t⟩ := h.cons_inv
    unfold D.keys at e
    split at e
    · rename_i k ks' e1 e2
      cases e
      rw [List.all_cons, D.key_ok r e1, D.keys_ok t e2]; rfl
    · cases e
section
variable {X : Cx} {o e f : Expr} {td ty tx : TE3} {apos pos : Pos} {i : Nat}
def putKs {κ : Type} [DecidableEq κ] (ks : List κ) (z : κ) : List κ := if (ks.any fun k => decide (k = z)) = true then ks else ks ++ [z]
def putDs {κ : Type} [DecidableEq κ] (ks : List κ) (ds : List D) (z : κ) (x : D) : List D := if (ks.any fun k => decide (k = z)) = true then List.zipWith (fun k d => if k = z then x else d) ks ds else ds ++ [x]
def O.put : O → D → D → Option O
  | .dk ks ds, y, x => y.key.map fun k => .dk (putKs ks k) (putDs ks ds k x)
  | .dt ks ds, y, x => y.keyT.map fun k => .dt (putKs ks k) (putDs ks ds k x)
  | _, _, _ => none
def O.dlen : O → Nat
  | .dk ks _ => ks.length
  | .dt ks _ => ks.length
  | _ => 0
theorem put_keys {κ : Type} [DecidableEq κ] {kvs : List (κ × V)} {z : κ} {v : V} : (putK kvs z v).map (·.1) = putKs (kvs.map (·.1)) z := by
  unfold putK putKs
  rw [List.any_map]
  by_cases h : (kvs.any fun kv => decide (kv.1 = z)) = true
  · rw [if_pos h, if_pos (by exact h), List.map_map]
    apply List.map_congr_left
    intro a _
    show (if a.1 = z then (a.1, v) else a).1 = a.1
    split <;> rfl
  · rw [if_neg h, if_neg (by exact h), List.map_append]; rfl
theorem put_zip {κ : Type} [DecidableEq κ] {B : Sh} {G : Hp} {z : κ} {x : D} {v : V} (r : DR B G x v) : ∀ {kvs : List (κ × V)} {ds : List D}, DRs B G ds (kvs.map (·.2)) →
    DRs B G (List.zipWith (fun k d => if k = z then x else d) (kvs.map (·.1)) ds) ((kvs.map fun kv => if kv.1 = z then (kv.1, v) else kv).map (·.2))
  | [], ds, t => DRs.nil
  | (k, u) :: kvs, [], t => by have := t.length; simp at this
  | (k, u) :: kvs, d :: ds, t => by
    obtain ⟨u', ws, e, r', t'⟩ := t.cons_inv
    simp only [List.map_cons, List.cons.injEq] at e
    obtain ⟨e1, e2⟩ := e
    subst e1; subst e2
    simp only [List.map_cons, List.zipWith_cons_cons]
    refine DRs.cons ?_ (put_zip r t')
    by_cases q : k = z
    · rw [if_pos q]; show DR B G x (if k = z then (k, v) else (k, u)).2; rw [if_pos q]; exact r
    · rw [if_neg q]; show DR B G d (if k = z then (k, v) else (k, u)).2; rw [if_neg q]; exact r'
theorem put_vals {κ : Type} [DecidableEq κ] {B : Sh} {G : Hp} {kvs : List (κ × V)} {ds : List D} {z : κ} {x : D} {v : V} (t : DRs B G ds (kvs.map (·.2))) (r : DR B G x v) : DRs B G (putDs (kvs.map (·.1)) ds z x) ((putK kvs z v).map (·.2)) := by
  unfold putK putDs
  rw [List.any_map]
  by_cases h : (kvs.any fun kv => decide (kv.1 = z)) = true
  · rw [if_pos h, if_pos (by exact h)]; exact put_zip r t
  · rw [if_neg h, if_neg (by exact h), List.map_append]
    exact t.append (DRs.cons r DRs.nil)
theorem putKs_all {κ : Type} [DecidableEq κ] {p : κ → Bool} {ks : List κ} {z : κ} (h : ks.all p = true) (hz : p z = true) : (putKs ks z).all p = true := by
  unfold putKs
  split
  · exact h
  · rw [List.all_append, h]; simp [hz]
end
end L3
set_option Elab.async false
set_option linter.all false
set_option maxRecDepth 100000
set_option maxHeartbeats 1000000
namespace L2
open PySem PySem.Spec PyProof.Rows PySem.Calls
theorem KT.mono {H H' : Hp} (e : ∀ a o, H a = some o → H' a = some o) : ∀ {kvs : List (List Key × V)} {ps : List (List Key × Addr × Value)}, KT H kvs ps → KT H' kvs ps
  | _, _, .nil => .nil
  | _, _, .cons h t => .cons ⟨h.1, e _ _ h.2.1, h.2.2⟩ (KT.mono e t)
end L2
set_option Elab.async false
set_option linter.all false
set_option maxRecDepth 100000
set_option maxHeartbeats 1000000
namespace L2
open PySem PySem.Spec PyProof.Rows PySem.Calls
end L2
set_option Elab.async false
set_option linter.all false
set_option maxRecDepth 100000
set_option maxHeartbeats 1000000
namespace L3
open PySem PySem.Spec PyProof.Rows L2
end L3
set_option Elab.async false
set_option linter.all false
set_option maxRecDepth 100000
set_option maxHeartbeats 2000000
namespace L2
open PySem PySem.Spec PyProof.Rows
end L2
set_option Elab.async false
set_option linter.all false
set_option maxRecDepth 100000
set_option maxHeartbeats 1000000
namespace L3
open PySem PySem.Spec PyProof.Rows L2
end L3
set_option Elab.async false
set_option linter.all false
set_option maxRecDepth 100000
set_option maxHeartbeats 1000000
namespace PySem.W
open PySem PySem.Calls PyProof.Rows Builtin
end PySem.W
namespace L2
open PySem PySem.Spec PyProof.Rows
end L2
set_option Elab.async false
set_option linter.all false
set_option maxRecDepth 100000
set_option maxHeartbeats 1000000
namespace PySem
open Sem (wp)
open Builtin
open AutoSeq1 (wpAny_loadPart')
open MeetsSeq
theorem dict_eq_declines_str (l : Addr) (b : Str) (u : Tok) :
    Meets (Builtin.«dict.__eq__» ⟨[.ref l, .str b u], []⟩) (fun _ R s => s.TypeIs (.ref l) "dict" ∧ R (.ok (.ret .notImplemented)) s) :=
  .of_wp fun prog w A R s h => by
    obtain ⟨hl, h⟩ := h
    show wpAny _ _ (Builtin.Dict.dictSlotArgs "__eq__" ⟨[.ref l, .str b u], []⟩ >>= _) _ _ s
    unfold Builtin.Dict.dictSlotArgs
    refine wpAny_bind (wpAny_bind (wpAny_notOrdered_dict hl ?_))
    refine wpAny_bind (wpAny_of_eq (a := (Value.ref l, [Value.str b u])) rfl ?_)
    refine wpAny_pure ?_
    refine wpAny_bind (wpAny_isInstance (T := "str") (b := false) (typeIs_str s b u) F.sub_str_dict ?_)
    refine wpAny_bind (wpAny_rule ?_)
    first
      | exact wpAny_bind (wpAny_pure (wpAny_pure ⟨_, rfl, h⟩))
      | exact wpAny_pure ⟨_, rfl, h⟩
      | exact wpAny_bind (wpAny_pure ⟨_, rfl, h⟩)
theorem dict_ne_declines_str (l : Addr) (b : Str) (u : Tok) :
    Meets (Builtin.«dict.__ne__» ⟨[.ref l, .str b u], []⟩) (fun _ R s => s.TypeIs (.ref l) "dict" ∧ R (.ok (.ret .notImplemented)) s) :=
  .of_wp fun prog w A R s h => by
    obtain ⟨hl, h⟩ := h
    show wpAny _ _ (Builtin.Dict.dictSlotArgs "__ne__" ⟨[.ref l, .str b u], []⟩ >>= _) _ _ s
    unfold Builtin.Dict.dictSlotArgs
    refine wpAny_bind (wpAny_bind (wpAny_notOrdered_dict hl ?_))
    refine wpAny_bind (wpAny_of_eq (a := (Value.ref l, [Value.str b u])) rfl ?_)
    refine wpAny_pure ?_
    refine wpAny_bind (wpAny_isInstance (T := "str") (b := false) (typeIs_str s b u) F.sub_str_dict ?_)
    refine wpAny_bind (wpAny_rule ?_)
    first
      | exact wpAny_bind (wpAny_pure (wpAny_pure ⟨_, rfl, h⟩))
      | exact wpAny_pure ⟨_, rfl, h⟩
      | exact wpAny_bind (wpAny_pure ⟨_, rfl, h⟩)
theorem str_eq_declines_dict (b : Str) (u : Tok) (l : Addr) (dd : Option Addr) (es : Array DictEntry) (ep : Nat) (sl : Array (Option Value)) :
    Meets (Builtin.«str.__eq__» ⟨[.str b u, .ref l], []⟩) (fun _ R s => s.heap.get? l = some { cls := .type "dict", dict := dd, data := .dict es ep, slots := sl } ∧ R (.ok (.ret .notImplemented)) s) :=
  .of_wp fun prog w A R s h => by
    obtain ⟨hp, g, d, tk, os⟩ := s
    obtain ⟨hl, h⟩ := h
    wp_walk using wpAny_loadPart' hl, wpAny_load hl
    exact ⟨_, rfl, h⟩
theorem str_ne_declines_dict (b : Str) (u : Tok) (l : Addr) (dd : Option Addr) (es : Array DictEntry) (ep : Nat) (sl : Array (Option Value)) :
    Meets (Builtin.«str.__ne__» ⟨[.str b u, .ref l], []⟩) (fun _ R s => s.heap.get? l = some { cls := .type "dict", dict := dd, data := .dict es ep, slots := sl } ∧ R (.ok (.ret .notImplemented)) s) :=
  .of_wp fun prog w A R s h => by
    obtain ⟨hp, g, d, tk, os⟩ := s
    obtain ⟨hl, h⟩ := h
    wp_walk using wpAny_loadPart' hl, wpAny_load hl
    exact ⟨_, rfl, h⟩
section
variable {M : Model} {A : Around} {E : Value → Shared → Prop} {s : Shared}
theorem rc_ne_decline_or {a b : Value} {Ta Tb ida idb : String} {k : Bool} {Q : Value → Shared → Prop} (ha : s.TypeIs a Ta) (hb : s.TypeIs b Tb)
    (hne : (Value.type Ta != Value.type Tb) = true) (hsub : isSubtype (.type Tb) (.type Ta) = pure false) (h1 : Slot Ta (cmpInfo .NotEq).2.1 ida) (h2 : Slot Tb (cmpInfo .NotEq).2.2 idb)
    (hc1 : ∀ Q' : Value → Shared → Prop, Q' .notImplemented s → wpAny M A (call (.builtin ida) [a, b]) Q' E s)
    (hc2 : ∀ Q' : Value → Shared → Prop, Q' .notImplemented s → wpAny M A (call (.builtin idb) [b, a]) Q' E s)
    (hk : ∀ Q' : Bool → Shared → Prop, Q' k s → wpAny M A (isSame a b) Q' E s)
    (hr : [a, b].any Value.onHeap = false ∨ A.units < cLine) (h : Q (.bool (!k)) s) : wpAny M A (richCompare .NotEq a b) Q E s := by
  rcases hi : cmpInfo CmpOp.NotEq with ⟨sym, f, r⟩
  rw [hi] at h1 h2
  simp only [richCompare, hi, ha.oneThing_none]
  try with_reducible refine wpAny_holding ?_
  refine wpAny_bind (wpAny_cRoomFor_or hr ?_)
  refine wpAny_bind (wpAny_typeOf ha (wpAny_bind (wpAny_typeOf hb ?_)))
  simp only [hne, if_true]
  refine wpAny_bind (wpAny_of_eq hsub ?_)
  simp only [Bool.false_eq_true, if_false, Bool.not_false, if_true]
  refine wpAny_bind (m := tryCompare a _ b) (wpAny_tryCompare_declines ha h1 (hc1 _ ⟨rfl, ?_⟩))
  refine wpAny_bind (m := tryCompare b _ a) (wpAny_tryCompare_declines hb h2 (hc2 _ ⟨rfl, ?_⟩))
  exact wpAny_bind (wpAny_rule (wpAny_bind (hk _ (wpAny_pure h))))
end
section
variable {prog : Program} {w : World} {A : Around} {E : Value → Shared → Prop} {s : Shared} {l : Addr} {b : Str} {u : Tok} {es : Array DictEntry} {ep : Nat} {dd : Option Addr} {sl : Array (Option Value)} {Q : Value → Shared → Prop}
theorem rc_dict_str (hl : s.heap.get? l = some { cls := .type "dict", dict := dd, data := .dict es ep, slots := sl }) (hu : A.units < cLine) (h : Q (.bool false) s) : wpAny (model prog w) A (richCompare .Eq (.ref l) (.str b u)) Q E s :=
  SeqAt.rc_eq_decline_or (k := false) ⟨_, hl, rfl⟩ (typeIs_str s b u) (by decide) F.sub_str_dict F.slot_dict_eq F.slot_str_eq_refl
    (fun _ hq => call_meets F.slot_dict_eq ⟨_, hl, rfl⟩ F.entry_dict_eq (F.args_dict_eq_2 _ _) (dict_eq_declines_str l b u) ⟨⟨_, hl, rfl⟩, hq⟩)
    (fun _ hq => call_meets F.slot_str_eq_refl (typeIs_str s b u) F.entry_str_eq (F.args_str_eq_2 _ _) (str_eq_declines_dict b u l dd es ep sl) ⟨hl, hq⟩)
    (fun _ hq => wpAny_of_eq (rfl : isSame (.ref l) (.str b u) = pure false) hq) (.inr hu) h
theorem rc_dict_strN (hl : s.heap.get? l = some { cls := .type "dict", dict := dd, data := .dict es ep, slots := sl }) (hu : A.units < cLine) (h : Q (.bool true) s) : wpAny (model prog w) A (richCompare .NotEq (.ref l) (.str b u)) Q E s :=
  rc_ne_decline_or (k := false) ⟨_, hl, rfl⟩ (typeIs_str s b u) (by decide) F.sub_str_dict F.slot_dict_ne F.slot_str_ne_refl
    (fun _ hq => call_meets F.slot_dict_ne ⟨_, hl, rfl⟩ F.entry_dict_ne (F.args_dict_ne_2 _ _) (dict_ne_declines_str l b u) ⟨⟨_, hl, rfl⟩, hq⟩)
    (fun _ hq => call_meets F.slot_str_ne_refl (typeIs_str s b u) F.entry_str_ne (F.args_str_ne_2 _ _) (str_ne_declines_dict b u l dd es ep sl) ⟨hl, hq⟩)
    (fun _ hq => wpAny_of_eq (rfl : isSame (.ref l) (.str b u) = pure false) hq) (.inr hu) h
end
end PySem
namespace L2
open PySem PySem.Spec PyProof.Rows
section
variable {X : Cx}
def rDStr (neg : Bool) : R2 := fun x y H Q => ∃ a kvs z, x = .ref a ∧ Rd H a (.dK kvs) ∧ y = .str z ∧ Q (.bl neg) H
theorem op_eqDStr (hu : X.A.units < cLine) : OpR X (compareOp .Eq) (rDStr false) := by
  intro pins s σ H x y v u Q I rx ry h
  obtain ⟨a, kvs, z, rfl, ha, rfl, q⟩ := h
  cases rx
  obtain ⟨t, rfl⟩ := ry
  obtain ⟨hz, hs0, vs, kv, hdo⟩ := dk_rd I.hok ha
  obtain ⟨o, es, ep, ho, hx, hdt, _⟩ := hdo
  obtain ⟨c, d, dt, sl⟩ := o
  obtain ⟨e1, e2, e3⟩ := hx
  simp only at e1 e2 e3 hdt
  subst e1 e2 e3 hdt
  show wpAny _ _ (richCompare .Eq _ _) _ _ s
  exact PySem.rc_dict_str ho hu ⟨.bl false, H, I, rfl, q⟩
theorem op_neDStr (hu : X.A.units < cLine) : OpR X (compareOp .NotEq) (rDStr true) := by
  intro pins s σ H x y v u Q I rx ry h
  obtain ⟨a, kvs, z, rfl, ha, rfl, q⟩ := h
  cases rx
  obtain ⟨t, rfl⟩ := ry
  obtain ⟨hz, hs0, vs, kv, hdo⟩ := dk_rd I.hok ha
  obtain ⟨o, es, ep, ho, hx, hdt, _⟩ := hdo
  obtain ⟨c, d, dt, sl⟩ := o
  obtain ⟨e1, e2, e3⟩ := hx
  simp only at e1 e2 e3 hdt
  subst e1 e2 e3 hdt
  show wpAny _ _ (richCompare .NotEq _ _) _ _ s
  exact PySem.rc_dict_strN ho hu ⟨.bl true, H, I, rfl, q⟩
end
end L2
set_option Elab.async false
set_option linter.all false
set_option maxRecDepth 100000
set_option maxHeartbeats 1000000
namespace L3
open PySem PySem.Spec PyProof.Rows L2
variable [XCt]
section
variable {X : Cx}
def rReprD (K : PySem.W.Frag) : List V → Hp → VK → Prop := fun xs H Q => ∃ x d, xs = [x] ∧ Dp K H x d ∧ d.showable = true ∧ d.hasDict = false ∧ d.depth ≤ 64 ∧ d.shown.length ≤ sizeLine ∧ Q (.str d.shown) H
theorem call_reprD (hgd : X.A.guards = some []) (hu : X.A.units + 65 < cLine) : CallR X (.builtin "repr") (rReprD X.K) := by
  intro pins s σ H xs us Q I r h
  obtain ⟨x, d, rfl, hd, hs, hn, hdp, hz, q⟩ := h
  obtain ⟨u, rfl, ru⟩ := vals1 r
  obtain ⟨as, rr⟩ := Dp.reads I d x u hd ru
  have big : ∀ {a : Addr}, Reads s.heap (.ref a) d as → wpAny (model X.prog X.w) X.A (call (.builtin "repr") [.ref a]) (EP X pins σ Q) X.xe s := fun {a} r1 =>
    repr_of_reads' r1 hs (PyData.noDict_hsm hn) hgd (by omega) (fun _ _ e => e) (fun h' u tk hk => ⟨.str d.shown, H, I.kept hk, ⟨_, rfl⟩, q⟩) hz
  cases rr with
  | none => exact PySem.P.repr_of_none ⟨.str _, H, I.tok _, ⟨_, rfl⟩, q⟩
  | bool b => exact PySem.P.repr_of_bool ⟨.str _, H, I.tok _, ⟨_, rfl⟩, q⟩
  | int i t => exact PySem.P.repr_of_int (by simpa [PyData.showable] using hs) ⟨.str _, H, I.tok _, ⟨_, rfl⟩, q⟩
  | str z t => exact PySem.P.repr_of_str ⟨.str _, H, I.tok _, ⟨_, rfl⟩, q⟩ hz
  | list h1 h2 h3 h4 => exact big (.list h1 h2 h3 h4)
  | tuple h1 h2 h3 h4 => exact big (.tuple h1 h2 h3 h4)
  | dict _ _ _ _ _ => cases hn
/-- what may be shown -/
def D.showOk (d : D) : Prop := d.cmp ∧ d.py.showable = true ∧ d.py.shown.length ≤ sizeLine
def rRepr3 : RC3 := fun ds n Q => ∃ d, ds = [d] ∧ d.showOk ∧ Q (.raw (.str d.py.shown)) n
def rEqA3 (neg : Bool) : R23 := fun x y n Q => match x, y with
  | .raw (.str a), .raw (.str b) => Q (.bl (if neg then !decide (a = b) else decide (a = b))) n
  | .dk _ _, .str _ => Q (.bl neg) n
  | x, y => rEq3 neg x y n Q
theorem opi_eqA {r r1 r2 : R2} {neg : Bool} (i : OpI r (rEq3 neg)) (h1 : ∀ a b H Q, Q (.bl (if neg then !decide (a = b) else decide (a = b))) H → r1 (V.str a) (V.str b) H Q)
    (h2 : ∀ a kvs z H Q, Rd H a (.dK kvs) → Q (.bl neg) H → r2 (V.ref a) (V.str z) H Q) : OpI (fun x y H Q => r1 x y H Q ∨ r2 x y H Q ∨ r x y H Q) (rEqA3 neg) := by
  intro w H x y dx dy Q ok rx ry h
  unfold rEqA3 at h
  split at h
  · rw [vr_raw rx, vr_raw ry]
    exact .inl (h1 _ _ _ _ ⟨w, _, ok.refl, dr_bl, h⟩)
  · obtain ⟨a, kvs, rfl, hh, _⟩ := rx.dk ok
    rw [ry.str]
    exact .inr (.inl (h2 _ _ _ _ _ hh ⟨w, _, ok.refl, dr_bl, h⟩))
  · exact .inr (.inr (i w H x y dx dy Q ok rx ry h))
theorem dec_strV {a b : Str} : decide (V.str a = V.str b) = decide (a = b) := by
  by_cases h : a = b
  · rw [h]; simp
  · rw [decide_eq_false h, decide_eq_false (fun z => h (by cases z; rfl))]
theorem od_eqA (hu : X.A.units + 64 < cLine) : OpD X (compareOp .Eq) (rEqA3 false) := by
  obtain ⟨r, hr, i⟩ := (od_eq (X := X) hu).ex
  refine ⟨_, op_eq.or ((op_eqDStr (by omega)).or hr), opi_eqA i (fun a b H Q q => ⟨rfl, ?_⟩) (fun a kvs z H Q hh q => ⟨a, kvs, z, rfl, hh, rfl, q⟩)⟩
  rw [dec_strV]; exact q
theorem od_neA (hu : X.A.units + 64 < cLine) : OpD X (compareOp .NotEq) (rEqA3 true) := by
  obtain ⟨r, hr, i⟩ := (od_ne (X := X) hu).ex
  refine ⟨_, op_ne.or ((op_neDStr (by omega)).or hr), opi_eqA i (fun a b H Q q => ⟨rfl, ?_⟩) (fun a kvs z H Q hh q => ⟨a, kvs, z, rfl, hh, rfl, q⟩)⟩
  rw [dec_strV]; exact q
variable {a b e : Expr} {ta tb te : TE3} {pos p : Pos} {CX : CXT} {C f : Addr} {fd : FuncData} {ps : List Str} {n : Nat} {sp : Sp3} {E : XK}
end
end L3
set_option Elab.async false
set_option linter.all false
set_option maxRecDepth 100000
set_option maxHeartbeats 1000000
namespace PySem.W
open PySem PySem.Spec PySem.Calls PyProof.Rows
end PySem.W
namespace L2
open PySem PySem.Spec PyProof.Rows
end L2
set_option Elab.async false
set_option linter.all false
set_option maxRecDepth 100000
set_option maxHeartbeats 1000000
namespace L3
open PySem PySem.Spec PyProof.Rows L2
end L3
namespace L3
open PySem PySem.Spec PyProof.Rows L2
variable [XCt]
/-- {k: v} -/
def nDisp1 (tk tv : TE3) : TN3 := fun σ n Q => tk σ n fun y n1 => tv σ n1 fun x n2 => ∃ k, y.key = some k ∧ Q (.dk [k] [x]) n2
theorem n_disp1 {X : Cx} {pos : Pos} {a b : Expr} {tk tv : TE3} (ha : DE X a tk) (hb : DE X b tv) : DN X (.Dict [some a] [b] pos) (nDisp1 tk tv) :=
  .of (pe_disp (pps_cons ha.pe hb.pe pps_nil) rfl rfl (by simp) (by show 1 ≤ 15; omega)) fun w w0 H0 σ3 σ H Q sr q p hp => by
    have gp : w.G p = none := sr.ok.gh.none hp
    have bp : ¬ w.B p := sr.ok.noB hp
    have s0 : Step w H w (upd H p (.dK [])) := sr.ok.priv hp (fun _ z => by cases z)
    have hh0 : (upd H p (.dK [])) p ≠ none := by rw [upd_same]; simp
    refine teOf.use (sr.step s0) q fun y v w1 H1 s1 r1 q1 => teOf.use ((sr.step s0).step s1) q1 fun x u w2 H2 s2 r2 ⟨k, ek, q2⟩ => ?_
    have s12 := s1.trans s2
    have g2 := s12.newG p hh0 bp gp
    have b2 := s12.newB p hh0 bp
    have e2 := s12.hh p _ upd_same bp
    have ev := r1.key ek
    subst ev
    refine ⟨e2, [(k, u)], rfl, by show 1 ≤ 15; omega, ?_⟩
    have em : mergeK [] [(k, u)] = [(k, u)] := rfl
    rw [em]
    refine ⟨w2, .dk [k] [x], (s0.trans s12).privAt hp g2 b2 (fun _ z => by cases z), ⟨p, _, rfl, hp, g2, b2, upd_same, [(k, u)], rfl, rfl, ?_, DRs.cons r2 DRs.nil⟩, q2⟩
    show (kOk k && true) = true
    rw [D.key_ok (s2.dr r1) ek]; rfl
end L3
namespace L2
open PySem PySem.Spec PyProof.Rows
end L2
set_option Elab.async false
set_option linter.all false
set_option maxRecDepth 100000
set_option maxHeartbeats 1000000
namespace L3
open PySem PySem.Spec PyProof.Rows L2
variable [XCt]
/-- a def of the text, promised -/
def Fun3 (P : Program) (w : World) (K : PySem.W.Frag) (mg : Str → Option Value) (base : Heap) (k : Nat) (f : Addr) (ps : List Str) (sp : Sp3) : Prop :=
  ∃ fd, FnG P w K mg base (L2N.CX P w) k f fd ps (spOf sp) ∧ Binds K fd ps [] ∧ PySem.W.keepIn K (.ref f) = true
/-- room to run in -/
structure Rm (k : Nat) (X : Cx) : Prop where
  r : Room k X.A
  g : X.A.guards = some []
theorem Rm.u {k : Nat} {X : Cx} (h : Rm k X) : X.A.units + 65 < cLine := by have := h.r.un; omega
section
variable {X : Cx} {j k n : Nat} {f C : Addr} {ps ks : List Str} {sp : Sp3} {spi : SpI3} {x m : Str} {p pos apos : Pos} {e o a b : Expr} {es : List Expr} {kws : List Keyword} {t tk : TA3} {to te ta tb : TE3} {gD : List D → List D → List D} {dds : List D}
theorem d_callF (h : Fun3 X.prog X.w X.K X.mg X.base j f ps sp) (hr : Rm k X) (hm : X.mg x = some (.ref f)) (ha : DA X (e :: es) t) (hg : Gl X x := by rfl) (hj : j ≤ k := by decide) (hdb : (x == ("__debug__" : Str)) = false := by decide)
    (he : starEach (e :: es) X.env = (false, eval e X.env) :: starEach es X.env := by rfl) (hpl : (backTo pos (starEach es X.env)).any (·.1) = false := by rfl) : DE X (.Call (.Name x p) (e :: es) [] pos) (dCall sp [] t) := by
  obtain ⟨fd, F, b, kp⟩ := h
  exact d_call F (hr.r.mono hj) hr.g hg hm kp b .nil dfl_nil ha hdb he hpl
end
section
variable {X : Cx} {a e : Expr} {ta : TE3} {tn : TN3} {pos : Pos}
def dNeg (ta : TE3) : TE3 := fun σ n Q => ta σ n fun d n1 => ∃ i, d = .int i ∧ Q (.int (-i)) n1
theorem d_neg (ha : DE X a ta) : DE X (.UnaryOp .USub a pos) (dNeg ta) :=
  .of (pe_un un_neg ha.pe) fun w w0 H0 σ3 σ H Q sr q => teOf.use sr q fun d v w1 H1 s1 r1 ⟨i, ed, q1⟩ => by
    subst ed
    unfold DR at r1
    exact ⟨i, r1, w1, _, s1, dr_int, q1⟩
def eN (t : TN3) : TE3 := fun σ n Q => t σ n fun o n' => Q o.toD n'
theorem e_n (h : DN X e tn) : DE X e (eN tn) := .ofN h
end
end L3
set_option Elab.async false
set_option linter.all false
set_option maxRecDepth 100000
set_option maxHeartbeats 1000000
namespace L3
open PySem PySem.Spec PyProof.Rows L2
end L3
set_option Elab.async false
set_option linter.all false
set_option maxRecDepth 100000
set_option maxHeartbeats 1000000
namespace PySem.W
open PySem PySem.Spec PySem.Calls PyProof.Rows
end PySem.W
namespace L2
open PySem PySem.Spec PyProof.Rows
end L2
set_option Elab.async false
set_option linter.all false
set_option maxRecDepth 100000
set_option maxHeartbeats 1000000
namespace L3
open PySem PySem.Spec PyProof.Rows L2
variable [XCt]
section
variable {X : Cx} {tg iter elt : Expr} {ifs : List Expr} {scope : Scope} {own : List (Str × Nat)} {pos spos py : Pos} {is : List Nat} {wi : TI3} {g : TG3} {tt : TT3} {te : TE3} {i : Nat} {y : Str}
/-- the same, the list not one's own -/
theorem ds_setLcP (hN : X.N.Nodup) (hy : X.N[i]? = some y) (hyl : X.env.scope.names.lookup y = some .local) (hc : X.calm = true)
    (hsw : swapsWith (.ListComp elt [⟨tg, iter, ifs, 0⟩] scope pos) (some (.Name y py)) spos.line X.env = pure true) (hi : DI X tg iter wi) (ok : BlkOk X.N X.env.scope scope own)
    (hg : ∀ (s : Shared) (H : Hp) (C : Addr) (cl : List (Str × Addr)) (fp : List Addr), @DG XCt.dead (X.blk s H scope (compEnvC scope cl C X.env) fp) tg is g) (ht : ∀ (s : Shared) (H : Hp) (C : Addr) (cl : List (Str × Addr)) (fp : List Addr), @DTs XCt.dead (X.blk s H scope (compEnvC scope cl C X.env) fp) ifs tt)
    (he : ∀ (s : Shared) (H : Hp) (C : Addr) (cl : List (Str × Addr)) (fp : List Addr), @DE XCt.dead (X.blk s H scope (compEnvC scope cl C X.env) fp) elt te) (hsub : ∀ j ∈ is, j ∈ own.map (·.2) := by decide) (hs : ∀ x, foldedSetIterable iter X.env x = pure x := by intro _; rfl) :
    DS X (.Assign [.Name y py] (.ListComp elt [⟨tg, iter, ifs, 0⟩] scope pos) spos) (dSet (eN (nLc wi g tt te (own.map (·.2)))) (gNm i)) :=
  .of (ps_setLc hc hN hy hyl hsw hi.pi ok (fun s H C cl fp => letI := XCt.dead; PG.imp (hg s H C cl fp).pg gD_le) (fun s H C cl fp => letI := XCt.dead; PTs.imp (ht s H C cl fp).pts ttD_le) (fun s H C cl fp => letI := XCt.dead; PE.imp (he s H C cl fp).pe teD_le) hs) fun w w0 H0 σ3 σ H E sr q => lc_imp hsub sr (show nLc wi g tt te (own.map (·.2)) σ3 w.n (fun o n' => gNm i o.toD σ3 n' E.nx) from q) fun v H' ⟨w', ds, s, ⟨l, ho, e, hn, g, b, at_, r⟩, q'⟩ => by
    subst e
    have r2 := r
    obtain ⟨xs, eh, rr⟩ := r
    subst eh
    have s2 := s.pubAt default hn g b at_ r2
    have e2 : upd H' l ((O.lst ds).pub default (.lst xs)) = H' := upd_self at_
    rw [e2] at s2
    exact ⟨_, _, (sr.step s2).setD i (by
      unfold O.toD DR
      exact ⟨l, xs, rfl, upd_same, DRs.mono (Ex.new g) .refl _ _ rr⟩), s2.later, q'⟩
end
end L3
set_option Elab.async false
set_option linter.all false
set_option maxRecDepth 100000
set_option maxHeartbeats 1000000
namespace L2
open PySem PySem.Spec PyProof.Rows
/-- what an except clause names -/
def Tst (X : Cx) (t : Expr) (cs : List Value) : Prop := ∀ (a : Addr) (oe : Obj) (pn : List (Addr × Obj)) (σ : St) (H : Hp) (cls : Value) (b : Bool) (Q : Value → Shared → Prop) (E : Value → Shared → Prop) (s : Shared),
  Inv (X.suite a ((a, oe) :: pn)) [] σ H s → PySem.W.Looks (model X.prog X.w) s.heap (typeOf (.ref a)) cls → PySem.W.exmAny X.K cls cs = some b →
  (∀ c h', (∀ q o, s.heap.get? q = some o → h'.get? q = some o) → PySem.W.Looks (model X.prog X.w) h' (excMatches (.ref a) c) b → Q c { s with heap := h' }) →
  wpAny (model X.prog X.w) (X.A.mark (some (.ref a))) (eval t X.env) Q E s
theorem flyingZ_keeps {h h' B : Heap} {l : List Env} {a : Addr} {Z : Obj → Prop} (k : ∀ b o, h.get? b = some o → h'.get? b = some o) (x : HandSPX.FlyingZ B l a Z h) : HandSPX.FlyingZ B l a Z h' := by
  obtain ⟨x1, x2, x3, oe, vs, T, oT, ts, e1, e2, e3, e4, e5, e6, e7, e8, e9⟩ := x
  exact ⟨fun b o e => k _ _ (x1 b o e), x2, Heap.FunFrames.of_keeps (fun b o e _ => ⟨o, k b o e, rfl⟩) x3, oe, vs, T, oT, ts, k _ _ e1, e2, e3, e4, e5, e6, k _ _ e7, e8, e9⟩
section
variable {X : Cx}
theorem Names.ld {x : Str} {c : Value} {np : Pos} (hc : Names X x c) {a : Addr} {oe : Obj} {pn : List (Addr × Obj)} {σ : St} {H : Hp} {s : Shared} {Q : Value → Shared → Prop} {E : Value → Shared → Prop} (S : Inv (X.suite a ((a, oe) :: pn)) [] σ H s) (q : Q c s) :
    wpAny (model X.prog X.w) (X.A.mark (some (.ref a))) (eval (.Name x np) X.env) Q E s := by
  obtain ⟨hg, hdbg, hm | ⟨hm, hv, hnn⟩⟩ := hc
  · exact ld_glob (X := X.suite a ((a, oe) :: pn)) S hg hm q hdbg
  · exact ld_blt (X := X.suite a ((a, oe) :: pn)) S hg hm hv q hnn hdbg
theorem tst_1 {x : Str} {c : Value} {np : Pos} (hc : Names X x c) : Tst X (.Name x np) [c] := by
  intro a oe pn σ H cls b Q E s S LT hb q
  obtain ⟨b1, d1, h1, h2, e⟩ := PySem.W.exmAny_cons hb
  have h2 : some false = some d1 := h2
  cases h2
  rw [Bool.or_false] at e
  subst e
  exact hc.ld S (q c s.heap (fun _ _ z => z) (PySem.W.exm_one S.kIn LT h1))
/-- the ends where the name goes again -/
def goneE (D : Ends) : Option Nat → Ends
  | none => D
  | some i => { nx := fun σ' H' => D.nx (σ'.set i none) H', rt := D.rt, bk := fun σ' H' => D.bk (σ'.set i none) H', ct := fun σ' H' => D.ct (σ'.set i none) H' }
def putE (σ : St) (a : Addr) : Option Nat → St
  | none => σ
  | some i => σ.set i (some (.ref a))
abbrev HdL := List (List Value × Option Nat × (Addr → Value → Option Addr → TS))
def wHds (K : PySem.W.Frag) (Wout : WX) (D : Ends) : HdL → WX
  | [] => Wout
  | (cs, o, ts) :: r => fun cls d σ H => ∃ b, PySem.W.exmAny K cls cs = some b ∧ (b = true → ∀ a, H a = none → ts a cls d (goneE D o) (putE σ a o) H) ∧ (b = false → wHds K Wout D r cls d σ H)
inductive Hds (X : Cx) : List ExceptHandler → HdL → Prop
  | nil : Hds X [] []
  | cons {t : Expr} {cs : List Value} {ts : Addr → Value → Option Addr → TS} {b₀ : Stmt} {suite : List Stmt} {pos' : Pos} {hds : List ExceptHandler} {l : HdL} (hc : Tst X t cs)
      (hsu : ∀ (a : Addr) (oe : Obj) (cls : Value) (d : Option Addr) (pn : List (Addr × Obj)), L2N.Zn cls d oe → (∃ vs, oe.data = .fields vs) → PSs (X.suite a ((a, oe) :: pn)) (b₀ :: suite) (ts a cls d)) (r : Hds X hds l) :
      Hds X (.ExceptHandler (some t) none (b₀ :: suite) pos' :: hds) ((cs, none, ts) :: l)
  | consAs {t : Expr} {cs : List Value} {ts : Addr → Value → Option Addr → TS} {b₀ : Stmt} {suite : List Stmt} {pos' : Pos} {hds : List ExceptHandler} {l : HdL} {n : Str} {i : Nat} (hc : Tst X t cs) (hi : X.N[i]? = some n) (hln : X.env.kindOf n = some .local)
      (hsu : ∀ (a : Addr) (oe : Obj) (cls : Value) (d : Option Addr) (pn : List (Addr × Obj)), L2N.Zn cls d oe → (∃ vs, oe.data = .fields vs) → PSs (X.suite a ((a, oe) :: pn)) (b₀ :: suite) (ts a cls d)) (r : Hds X hds l) :
      Hds X (.ExceptHandler (some t) (some n) (b₀ :: suite) pos' :: hds) ((cs, some i, ts) :: l)
variable {body : List Stmt} {h₀ : ExceptHandler} {hds : List ExceptHandler} {l : HdL} {pos : Pos} {tb : WX → TS} {Wout : WX}
theorem ps_try_hds (hs : X.stack = X.env :: X.outer) (hf : X.env.frame = some X.env.locals) (hN : X.N.Nodup) (tk : L2N.Takes X Wout)
    (hb : ∀ (W : WX) (pn : List (Addr × Obj)) (xe : Value → Shared → Prop), L2N.Takes (X.tr pn xe) W → PassesOwn (model X.prog X.w) X.A X.env xe → PSs (X.tr pn xe) body (tb W))
    (hh : Hds X (h₀ :: hds) l) : PS X (.Try body (h₀ :: hds) [] [] pos) (fun D σ H => tb (wHds X.K Wout D l) D σ H) := by
  refine ⟨fun pins s σ H D I h => ?_⟩
  have ok := I.ok
  have hfr : X.A.frames = some (X.env :: X.outer) := by rw [ok.frames, hs]
  refine wpAny_Try_except ?_
  refine wpAny_mono ((hb (wHds X.K Wout D l) (X.pn ++ pins) (fun e s₁ => wpAny (model X.prog X.w) X.A (noteFrame e X.env) (fun _ s₂ => wpAny (model X.prog X.w) X.A (setFlight e none) (fun _ s₃ =>
    wpAny (model X.prog X.w) X.A (handleBy e X.env (h₀ :: hds)) (SP X pins D) X.xe s₃) X.xe s₂) X.xe s₁) (fun u s' xx => ?_) PassesOwn.looking).run [] s σ H D (I.toTry _) h) (fun f s1 hsp => ?_) (fun e s1 he => he)
  · obtain ⟨a, B, sI, pins', σ', H', cls, d, rfl, J', nb, up, sky, na, os, ag, w⟩ := xx
    have J : Inv X pins σ' H' sI := J'.ofTry ok
    have sky' : Sky B (X.env :: X.outer) a (L2N.Zn cls d) X.env.locals s'.heap := by rw [← hs]; exact sky
    show wpAny (model X.prog X.w) X.A (noteFrame (.ref a) X.env) _ _ _
    refine L2N.Sky.land L2N.Zn.steady hfr hf sky' fun h3 fl3 up3 => ?_
    have notFr : ∀ {h : Heap} {o : Obj} {vs : Array Value}, h.FunFrames B (X.env :: X.outer) → h.get? a = some o → o.data = .fields vs → a ∉ frs (X.env :: X.outer) := fun {h o vs} ff e dd hm => by
      obtain ⟨_, o', e', hnf⟩ := ff.mem hm
      rw [e] at e'; cases e'
      exact hnf _ dd
    have go : ∀ {hds' : List ExceptHandler} {l' : HdL}, Hds X hds' l' → ∀ (h5 : Heap), HandSPX.FlyingZ B (X.env :: X.outer) a (L2N.Zn cls d) h5 → s'.heap.UpToSlots h5 → wHds X.K Wout D l' cls d σ' H' →
        wpAny (model X.prog X.w) X.A (handleBy (.ref a) X.env hds') (SP X pins D) X.xe { s' with heap := h5 } := by
      intro hds' l' hk
      induction hk with
      | nil =>
        intro h5 fl5 up5 w
        refine wpAny_handleBy_nil ?_
        obtain ⟨k1, k2, k3, oe, vs, T, oT, ts', he, hz, hd, h1, hr⟩ := id fl5
        unfold PySem.passOn
        refine wpAny_bind (wpAny_field he hd h1 ?_)
        rw [if_neg (show ¬ ((Value.ref T == Value.none) = true) from by simp)]
        have fin : wpAny (model X.prog X.w) X.A (setFlight (.ref a) X.env.frame) (fun _ s4 => wpAny (model X.prog X.w) X.A (throw (.ref a) : Sem Flow) (SP X pins D) X.xe s4) X.xe { s' with heap := h5 } := by
          rw [hf]
          refine HandSPX.setFlight_upZ fl5 fun h4 hh4 up4 => wpAny_throw (tk _ _ ?_)
          exact ⟨a, B, sI, pins, σ', H', cls, d, rfl, J, nb, (up.trans up5).trans up4, .inr (.inr (by rw [hs]; exact hh4)), na, os, ag, w⟩
        first
          | exact wpAny_bind (wpAny_pure (wpAny_bind fin))
          | exact wpAny_bind fin
      | @cons t cs ts b₀ suite pos' hds2 l2 hc hsu r ih =>
        intro h5 fl5 up5 w
        obtain ⟨b, hb1, hyes, hno⟩ := w
        have J5 : Inv X pins σ' H' { s' with heap := h5 } := J.landed nb fl5.1 (up.trans up5) os ag
        obtain ⟨oe5, vs5, he5, hz5, hd5⟩ := fl5.there
        have nfr := notFr fl5.2.2.1 he5 hd5
        have nL : a ≠ X.env.locals := fun z => nfr (List.mem_filterMap.mpr ⟨X.env, List.mem_cons_self, by rw [hf, z]⟩)
        have nF : a ∉ X.fs := fun hm => by
          obtain ⟨e, he, q⟩ := List.mem_filterMap.mp hm
          exact nfr (List.mem_filterMap.mpr ⟨e, List.mem_cons_of_mem _ he, q⟩)
        have S5 := J5.suite he5 hd5 na nL nF
        refine wpAny_handleBy_cons (codeAny_handlers_test ?_) (by intro q; cases q)
        have LT : PySem.W.Looks (model X.prog X.w) h5 (typeOf (.ref a)) cls := fun A Q E s k q => wpAny_typeOf_ref (k _ _ he5) (by rw [hz5.1]; exact q)
        refine hc a oe5 (X.pn ++ pins) _ H' cls b _ _ _ S5 LT hb1 fun c h6 k6 LM => LM.here ?_
        have fl6 : HandSPX.FlyingZ B (X.env :: X.outer) a (L2N.Zn cls d) h6 := flyingZ_keeps k6 fl5
        have up6 : s'.heap.UpToSlots h6 := up5.trans (Heap.UpToSlots.of_keeps k6)
        cases b with
        | true =>
          refine codeAny_handlers_suite ?_
          refine HandSPX.lands_againZ fl6 fun h4 fl4 up4 => ?_
          have J4 : Inv X pins σ' H' { s' with heap := h4 } := J.landed nb fl4.1 ((up.trans up6).trans up4) os ag
          obtain ⟨oe4, vs4, he4, hz4, hd4⟩ := fl4.there
          have S4 := J4.suite he4 hd4 na nL nF
          refine wpAny_mono ((hsu a oe4 cls d (X.pn ++ pins) hz4 ⟨_, hd4⟩).run [] _ _ H' _ S4 (hyes rfl a na)) (fun f s6 hsp => ?_) (fun _ _ z => False.elim z)
          cases f with
          | next =>
            obtain ⟨σ6, H6, S6, q6⟩ := hsp
            exact ⟨_, _, S6.unsuite ok, q6⟩
          | brk =>
            obtain ⟨σ6, H6, S6, q6⟩ := hsp
            exact ⟨_, _, S6.unsuite ok, q6⟩
          | cont =>
            obtain ⟨σ6, H6, S6, q6⟩ := hsp
            exact ⟨_, _, S6.unsuite ok, q6⟩
          | ret u =>
            obtain ⟨v6, σ6, H6, S6, r6, q6⟩ := hsp
            exact ⟨_, _, _, S6.unsuite ok, r6, q6⟩
        | false =>
          show wpAny _ X.A (handleBy (.ref a) X.env hds2) _ _ _
          exact ih h6 fl6 up6 (hno rfl)
      | @consAs t cs ts b₀ suite pos' hds2 l2 n i hc hi hln hsu r ih =>
        intro h5 fl5 up5 w
        obtain ⟨b, hb1, hyes, hno⟩ := w
        have J5 : Inv X pins σ' H' { s' with heap := h5 } := J.landed nb fl5.1 (up.trans up5) os ag
        obtain ⟨oe5, vs5, he5, hz5, hd5⟩ := fl5.there
        have nfr := notFr fl5.2.2.1 he5 hd5
        have nL : a ≠ X.env.locals := fun z => nfr (List.mem_filterMap.mpr ⟨X.env, List.mem_cons_self, by rw [hf, z]⟩)
        have nF : a ∉ X.fs := fun hm => by
          obtain ⟨e, he, q⟩ := List.mem_filterMap.mp hm
          exact nfr (List.mem_filterMap.mpr ⟨e, List.mem_cons_of_mem _ he, q⟩)
        have S5 := J5.suite he5 hd5 na nL nF
        refine wpAny_handleBy_cons (codeAny_handlers_test ?_) (by intro q; cases q)
        have LT : PySem.W.Looks (model X.prog X.w) h5 (typeOf (.ref a)) cls := fun A Q E s k q => wpAny_typeOf_ref (k _ _ he5) (by rw [hz5.1]; exact q)
        refine hc a oe5 (X.pn ++ pins) _ H' cls b _ _ _ S5 LT hb1 fun c h6 k6 LM => LM.here ?_
        have fl6 : HandSPX.FlyingZ B (X.env :: X.outer) a (L2N.Zn cls d) h6 := flyingZ_keeps k6 fl5
        have up6 : s'.heap.UpToSlots h6 := up5.trans (Heap.UpToSlots.of_keeps k6)
        cases b with
        | true =>
          refine codeAny_handlers_suite_as ?_
          refine HandSPX.lands_againZ fl6 fun h4 fl4 up4 => ?_
          have J4 : Inv X pins σ' H' { s' with heap := h4 } := J.landed nb fl4.1 ((up.trans up6).trans up4) os ag
          obtain ⟨oe4, vs4, he4, hz4, hd4⟩ := fl4.there
          have S4 := J4.suite he4 hd4 na nL nF
          have hloc : Loc X.env.scope n := .inl hln
          refine store_ok (X := X.suite a ((a, oe4) :: (X.pn ++ pins))) (v := .ref a) S4 hN hi hloc rfl (fun s5 S5 => ?_) (.inr hln)
          refine wpAny_mono ((hsu a oe4 cls d (X.pn ++ pins) hz4 ⟨_, hd4⟩).run [] s5 _ H' _ S5 (hyes rfl a na)) (fun f s6 hsp => ?_) (fun _ _ z => False.elim z)
          have end_ : ∀ {σ6 : St} {H6 : Hp} {Q : Shared → Prop}, Inv (X.suite a ((a, oe4) :: (X.pn ++ pins))) [] σ6 H6 s6 → (∀ s7, Inv X pins (σ6.set i none) H6 s7 → Q s7) →
              wpAny (model X.prog X.w) X.A (do bindName X.env n .none; unbindBehindTheSuite X.env n pos') (fun _ s7 => Q s7) X.xe s6 := fun {σ6 H6 Q} S6 hq => gone_ok (S6.unsuite ok) hN hi hln hq
          cases f with
          | next =>
            obtain ⟨σ6, H6, S6, q6⟩ := hsp
            exact end_ S6 fun s7 J7 => ⟨_, _, J7, q6⟩
          | brk =>
            obtain ⟨σ6, H6, S6, q6⟩ := hsp
            exact end_ S6 fun s7 J7 => ⟨_, _, J7, q6⟩
          | cont =>
            obtain ⟨σ6, H6, S6, q6⟩ := hsp
            exact end_ S6 fun s7 J7 => ⟨_, _, J7, q6⟩
          | ret u =>
            obtain ⟨v6, σ6, H6, S6, r6, q6⟩ := hsp
            exact end_ S6 fun s7 J7 => ⟨_, _, _, J7, r6, q6⟩
        | false =>
          show wpAny _ X.A (handleBy (.ref a) X.env hds2) _ _ _
          exact ih h6 fl6 up6 (hno rfl)
    exact go hh h3 fl3 up3 w
  · cases f with
    | next =>
      obtain ⟨σ', H', J', q⟩ := hsp
      exact wpAny_execs_nil ⟨σ', H', J'.ofTry ok, q⟩
    | brk =>
      obtain ⟨σ', H', J', q⟩ := hsp
      exact ⟨σ', H', J'.ofTry ok, q⟩
    | cont =>
      obtain ⟨σ', H', J', q⟩ := hsp
      exact ⟨σ', H', J'.ofTry ok, q⟩
    | ret u =>
      obtain ⟨v, σ', H', J', r, q⟩ := hsp
      exact ⟨v, σ', H', J'.ofTry ok, r, q⟩
end
end L2
set_option Elab.async false
set_option linter.all false
set_option maxRecDepth 100000
set_option maxHeartbeats 1000000
namespace L2
open PySem PySem.Spec PyProof.Rows
/-- an own class whose __init__ is ValueError's -/
structure OexB (K : PySem.W.Frag) (CB : Addr) : Prop where
  ga : PySem.W.specialIn K (.ref CB) "__getattribute__" = some (some (.builtin "type.__getattribute__"))
  rd : PySem.W.readsIn K CB (.type "type") = true
  ty : PySem.W.typeIn K (.ref CB) = some (.type "type")
  fi : PySem.W.findCls K (.ref CB) (.type "type") "__init__" = some (.val (.builtin "ValueError.__init__"))
section
variable {X : Cx} {e : Expr} {es : List Expr} {ta : TA} {b f x : Str} {CB : Addr} {p p1 p2 p3 p4 p5 p6 p7 p8 p9 p10 pos : Pos}
theorem pe_oinit {pl : Sem Bool} (hg : Gl X b) (hm : X.mg b = some (.ref CB)) (B : OexB X.K CB) (ha : PA X (e :: es) ta) (hdb : (b == ("__debug__" : Str)) = false := by decide)
    (hc : eval (.Call (.Attribute (.Name b p1) "__init__" p2) (e :: es) [] pos) X.env = (do
      let ov ← eval (.Name b p1) X.env
      standAt p2.atName
      let (f, first) ← holding [ov] (getMethod ov "__init__" pl)
      callWith pos f first (backTo pos (starEach (e :: es) X.env)) (backToKw pos (keywordEach [] X.env))) := by rfl)
    (he : starEach (e :: es) X.env = (false, eval e X.env) :: starEach es X.env := by rfl) (hpl : (backTo pos (starEach es X.env)).any (·.1) = false := by rfl) :
    PE X (.Call (.Attribute (.Name b p1) "__init__" p2) (e :: es) [] pos) (tVeI X.K ta) := by
  refine ⟨fun pins s σ H Q I h => ?_⟩
  refine PySem.W.methodCall_KW (ld_glob I hg hm ?_ hdb) hc
  obtain ⟨m, fr⟩ := I.fr
  refine PySem.W.method_of_cls fr I.ok.mod.kin B.ga (PySem.W.cls_val fr I.ok.mod.kin B.ty B.rd B.fi (by decide +kernel) ?_)
  show wpAny _ _ (callWith pos (Value.builtin "ValueError.__init__") [] (backTo pos (starEach (e :: es) X.env)) []) _ _ _
  refine PyProof.Rows.callWith_method1 (thn (ha.run pos pins _ σ H _ (I.tok _) h) fun us s1 ⟨vs, H1, I1, r1, a, C, ws, ev, hl, T, ea, q⟩ => ?_) he hpl
  subst ev
  cases r1 with
  | @cons _ u0 _ ur ra rw' =>
    obtain rfl : u0 = Value.ref a := ra
    have hlen : ur.length ≤ sizeLine := by
      rw [← Paired.length rw', sizeLine_eq]
      omega
    exact oinit_ok T I1 ea hlen fun s' J => ⟨.non, H1, J, rfl, q⟩
/-- what such an __init__ does -/
def tExc (K : PySem.W.Frag) (f : Str) : TS := fun D σ H => ∃ (a C : Addr) (v : V), σ[0]? = some (some (.ref a)) ∧ σ[1]? = some (some v) ∧ OexC K C ∧ PySem.W.findIn K (.ref C) f = some none ∧ H a = some (exo a C none) ∧
  ∀ dx, H dx = none → dx ≠ a → D.nx σ (upd (upd H dx (exd dx [(f, v)])) a (exo a C (some dx)))
theorem pss_exc {txt : Str} {j} {pl : Sem Bool} (h0 : X.N[0]? = some ("self" : Str)) (h1 : X.N[1]? = some x) (v0 : Vis X.env.scope ("self" : Str)) (v1 : Vis X.env.scope x) (hg : Gl X b) (hm : X.mg b = some (.ref CB)) (B : OexB X.K CB) (d1 : (x == ("__debug__" : Str)) = false := by decide) (d2 : (x == ("__classdict__" : Str)) = false := by decide) (hdb : (b == ("__debug__" : Str)) = false := by decide)
    (hc : eval (.Call (.Attribute (.Name b p1) "__init__" p2) [.Name "self" p3, .Constant (.str txt) j p4] [] p5) X.env = (do
      let ov ← eval (.Name b p1) X.env
      standAt p2.atName
      let (f, first) ← holding [ov] (getMethod ov "__init__" pl)
      callWith p5 f first (backTo p5 (starEach [.Name "self" p3, .Constant (.str txt) j p4] X.env)) (backToKw p5 (keywordEach [] X.env))) := by rfl)
    (hs : swapsWith (.Call (.Attribute (.Name b p1) "__init__" p2) [.Name "self" p3, .Constant (.str txt) j p4] [] p5) none p6.line X.env = pure false := by rfl)
    (hs2 : swapsWith (.Name x p9) (some (.Attribute (.Name "self" p7) f p8)) p10.line X.env = pure false := by rfl) :
    PSs X [.Expr (.Call (.Attribute (.Name b p1) "__init__" p2) [.Name "self" p3, .Constant (.str txt) j p4] [] p5) p6, .Assign [.Attribute (.Name "self" p7) f p8] (.Name x p9) p10] (tExc X.K f) := by
  refine PSs.mk fun pins s σ H D I ⟨a, C, v, e0, e1, T, no, ea, q⟩ => ?_
  refine (pss_cons (ps_expr (pe_oinit hg hm B (pa_cons (pe_var h0 v0 (by decide) (by decide)) (pa_cons pe_str pa_nil)) hdb hc) hs) (pss_one (ps_ost (pe_var h0 v0 (by decide) (by decide)) (pe_var h1 v1 d1 d2) hs2))).run pins s σ H D I ?_
  refine ⟨.ref a, e0, ?_⟩
  refine ⟨a, C, _, rfl, by simp, T, ea, ?_⟩
  refine ⟨v, e1, .ref a, e0, a, C, rfl, T, no, .inl ⟨ea, fun dx hd hne => q dx hd hne⟩⟩
end
/-- its promise -/
def spExc (K : PySem.W.Frag) (f : Str) : Sp := fun vs H Q E => ∃ (a C : Addr) (v : V), vs = [.ref a, v] ∧ OexC K C ∧ PySem.W.findIn K (.ref C) f = some none ∧ H a = some (exo a C none) ∧
  ∀ dx, H dx = none → dx ≠ a → Q .non (upd (upd H dx (exd dx [(f, v)])) a (exo a C (some dx)))
theorem ok_exc {P : Program} {w : World} {K : PySem.W.Frag} {mg : Str → Option Value} {base : Heap} {x qual n : Str} {params : Arguments} {body : List Stmt} {scope : Scope} {f : Addr} {fd : FuncData} {k : Nat} {fl : Str} (F : FunD K x qual params body scope [] [] f fd) (S : FnScope ["self", n] ["self", n] scope)
    (hb : ∀ (cdv : Value) (A : Around) (outer : List Env) (s : Shared) (H : Hp) (E : XK), PSs (cxOf (L2N.CX P w) P w K mg base ["self", n] qual scope f cdv A outer s H E) body (tExc K fl)) : FnOk P w K mg base (L2N.CX P w) (k + 1) f fd ["self", n] (spExc K fl) := by
  refine F.ok S (fun vs H Q E ⟨a, C, v, e, _⟩ => by rw [e]; rfl) fun cdv A outer s H vs Q E hr ⟨a, C, v, e, T, no, ea, q⟩ => ?_
  refine ⟨_, hb cdv A outer s H E, a, C, v, ?_, ?_, T, no, ea, q⟩
  · rw [e]; rfl
  · rw [e]; rfl
/-- such an exception is made; its context is None -/
theorem pmk_oexN {X : Cx} {CX : CXT} {x : Str} {e : Expr} {es : List Expr} {ta : TA} {p pos : Pos} {C g : Addr} {k : Nat} {fd : FuncData} {ps : List Str} {sp : Sp} (T : OexC X.K C) (hI : PySem.W.findIn X.K (.ref C) "__init__" = some (some (.ref g))) (hT : PySem.W.typeIn X.K (.ref g) = some (.type "function"))
    (F1 : FnOk X.prog X.w X.K X.mg X.base CX k g fd ps sp) (hr : Room (k + 1) X.A) (hb : Binds X.K fd ps []) (hx : Passes CX X (fun _ _ _ => False)) (hg : Gl X x) (hm : X.mg x = some (.ref C)) (ha : PA X (e :: es) ta)
    (hdb : (x == ("__debug__" : Str)) = false := by decide) (he : starEach (e :: es) X.env = (false, eval e X.env) :: starEach es X.env := by rfl) (hpl : (backTo pos (starEach es X.env)).any (·.1) = false := by rfl) : L2N.PMk X (.Call (.Name x p) (e :: es) [] pos) (tMkO C sp [] ta) := fun pins s σ H Q I h => by
  obtain ⟨nm, q, N, bs, bm, sn, sub, ab, col, dd, k0, k1, k2, k3, k5, hC, hbm⟩ := T.cls
  refine wpAny_Call_Name_kw (ld_glob I hg hm (PySem.W.callWith_K (h₀ := X.base) I.ok.mod.kin T.kC (thn (ha.run pos pins s σ H _ I h) fun us z ⟨vs, G, J, rv, hz, q1⟩ => ⟨J.kIn, ?_⟩) he hpl) hdb)
  show wpAny _ _ (call (.ref C) us) _ _ _
  obtain ⟨h0, gs, dr, tk, os⟩ := z
  obtain ⟨a, ea0⟩ : ∃ a, a = h0.objs.size + 1 := ⟨_, rfl⟩
  have la : h0.objs.size ≤ a := by omega
  have na := J.hok.fresh la
  have hq := q1 a na
  rw [List.append_nil] at hq
  have up : ∀ b o, h0.get? b = some o → ((h0.push (PySem.W.kdv_tup us)).push (PySem.HandSPX.excO C h0.objs.size)).get? b = some o := fun b o e => Heap.get?_push_of_some _ (Heap.get?_push_of_some _ e)
  have at_ : ((h0.push (PySem.W.kdv_tup us)).push (PySem.HandSPX.excO C h0.objs.size)).get? a = some (PySem.HandSPX.excO C h0.objs.size) := by rw [ea0]; heap_get
  have J2 : Inv X pins σ (upd G a (exo a C none)) ⟨(h0.push (PySem.W.kdv_tup us)).push (PySem.HandSPX.excO C h0.objs.size), gs, dr, tk, os⟩ := J.laid (t' := tk) (a := a) (o := exo a C none) up la (exo_ok at_)
  have rv2 : Vals (V.ref a :: vs) (Value.ref a :: us) := .cons rfl rv
  have ln : (Value.ref a :: us).length = ps.length := by rw [← rv2.length]; exact F1.len _ _ _ _ hq
  have lu : us.length ≤ sizeLine := by rw [← Paired.length rv, sizeLine_eq]; omega
  have b2 := hb _ (Value.ref a :: us) J2.kIn (by rw [List.append_nil]; exact ln)
  rw [List.append_nil] at b2
  subst ea0
  refine wpAny_call (PySem.HandSPX.call_own F.excBase_ValueError (fun Y => PySem.HandSPX.refsVE_contains Y bm hbm) (J.kIn _ _ hC) (PySem.W.looks_findIn J.kIn hI) (fun self => PySem.W.bind_fn J.kIn self hT) lu (codeAny_mono (F1.run _ X.stack _ _ ⟨Value.ref (h0.objs.size + 1) :: us, []⟩ _ _ _ (fun _ _ _ => False) (hr.make C us []) (J2.env0.make C us []) b2 rv2 hq) fun r s' w => ?_))
  cases r with
  | error y => exact hx pins σ _ _ y s' J2 w
  | ok fl =>
    cases fl with
    | ret u =>
      obtain ⟨v, G2, os2, gn, un, hok, rv, ev, d, fs, e1, e2, nd, q2⟩ := w
      subst ev
      obtain ⟨h2, g2, d2, t2, o2⟩ := s'
      obtain ⟨t0, B, K, kB, nB, hB, nn⟩ := mk_end0 (d2 := d2) (t2 := t2) J la up un hok os2 gn e1 e2 nd
      exact ⟨rv, _, _, _, ⟨B, g2, d2, t2, o2⟩, _, .ref C, some d, rfl, K, kB, nB, hB, ⟨rfl, rfl, fun vs hv => by cases hv; rfl⟩, rfl, rfl, nn, rfl, gn, raises_own T.exC T.tyC, q2⟩
    | next => exact w.elim
    | brk => exact w.elim
    | cont => exact w.elim
/-- an own exception class that may be raised -/
def Exc3 (P : Program) (w : World) (K : PySem.W.Frag) (mg : Str → Option Value) (base : Heap) (k : Nat) (C : Addr) (f : Str) : Prop :=
  ∃ (fI : Addr) (fd : FuncData) (n : Str), PySem.W.findIn K (.ref C) "__init__" = some (some (.ref fI)) ∧ PySem.W.typeIn K (.ref fI) = some (.type "function") ∧ FnOk P w K mg base (L2N.CX P w) k fI fd ["self", n] (spExc K f) ∧ Binds K fd ["self", n] [] ∧ OexC K C ∧ PySem.W.findIn K (.ref C) f = some none
end L2
namespace L3
open PySem PySem.Spec PyProof.Rows L2
variable [XCt]
def dRaise (C : Addr) (f : Str) (te : TE3) : TS3 := fun _ σ n => te σ n fun d n1 => XCt.xc ⟨C, [f], [d]⟩ σ n1
theorem upd_exc {H : Hp} {a C dx : Addr} {f : Str} {v : V} (ha : H a = none) (hne : dx ≠ a) :
    upd (del (upd (upd (upd H a (exo a C none)) dx (exd dx [(f, v)])) a (exo a C (some dx))) a) dx (.xd [(f, v)]) = upd H dx (.xd [(f, v)]) := by
  funext b
  by_cases h1 : b = dx
  · rw [h1, upd_same, upd_same]
  · rw [upd_ne h1, upd_ne h1]
    by_cases h2 : b = a
    · rw [h2, del_same, ha]
    · rw [del_ne h2, upd_ne h2, upd_ne h1, upd_ne h2]
theorem ds_raise {X : Cx} {j k : Nat} {C : Addr} {f x : Str} {e : Expr} {te : TE3} {p pos2 pos : Pos} (h : Exc3 X.prog X.w X.K X.mg X.base j C f) (hr : Rm k X) (hc : X.calm = true) (hm : X.mg x = some (.ref C)) (he : DE X e te) (hg : Gl X x := by rfl) (hj : j + 1 ≤ k := by decide)
    (hdb : (x == ("__debug__" : Str)) = false := by decide) (hs : starEach [e] X.env = (false, eval e X.env) :: starEach [] X.env := by rfl) :
    DS X (.Raise (some (.Call (.Name x p) [e] [] pos2)) none pos) (dRaise C f te) := by
  obtain ⟨fI, fd, n, iC, tI, F1, hb, T, no⟩ := h
  refine .of (L2N.ps_raise hc takes_wm (pmk_oexN T iC tI F1 (hr.r.mono hj) hb passN hg hm (pa_cons he.pe pa_nil hs) hdb hs rfl)) fun w w0 H0 σ3 σ H E sr q => ?_
  show teOf X te σ H _
  refine teOf.use sr q fun d v w1 H1 s1 r1 q1 => ?_
  show (1 ≤ 1000) ∧ _
  refine ⟨by omega, fun a ha => ⟨a, C, v, rfl, T, no, upd_same, fun dx hdx hne => ?_⟩⟩
  have hd1 : H1 dx = none := by rw [← hdx, upd_ne hne]
  refine ⟨rfl, dx, [(f, v)], upd_same, by rw [upd_ne hne, upd_same], hd1, ?_⟩
  show Wm X (.ref C) (some dx) σ _
  rw [upd_exc ha hne]
  have st := s1.ok.pub (o := .xd [(f, v)]) hd1
  refine H0.xl ⟨C, [f], [d]⟩ (.ref C) (some dx) _ σ3 σ _ ((sr.step s1).step st) ⟨rfl, .inr ⟨dx, [(f, v)], rfl, upd_same, rfl, ?_⟩⟩ q1
  exact DRs.cons (st.dr r1) DRs.nil
end L3
set_option Elab.async false
set_option linter.all false
set_option maxRecDepth 100000
set_option maxHeartbeats 1000000
namespace L3
open PySem PySem.Spec PyProof.Rows L2
/-- a clause: of which classes; the place of its name; its suite, by the exception's address, class and dict -/
abbrev HdL3 := List ((Addr → Option Bool) × Option Nat × (Addr → Addr → Option Addr → TS3))
def gone3 (E : Ends3) : Option Nat → Ends3
  | none => E
  | some i => { nx := fun σ n => E.nx (σ.set i none) n, rt := E.rt, bk := fun σ n => E.bk (σ.set i none) n, ct := fun σ n => E.ct (σ.set i none) n, ro := E.ro }
def put3 (σ : St3) (x : D) : Option Nat → St3
  | none => σ
  | some i => σ.set i (some (S3.dat x))
/-- what the clauses wish -/
def hdX (xo : Exn3 → St3 → Mem → Prop) (E : Ends3) : HdL3 → Exn3 → St3 → Mem → Prop
  | [] => xo
  | (m, o, ts) :: r => fun e σ n => ∃ b, m e.C = some b ∧
    (b = true → (∀ a dx, ts a e.C (some dx) (gone3 E o) (put3 σ (.exn a e.C dx e.ns e.ds) o) n) ∧ (e.ns = [] → ∀ a, ts a e.C none (gone3 E o) (put3 σ (.raw (.ref a)) o) n)) ∧
    (b = false → hdX xo E r e σ n)
def tsD (t : TS3) : TS := fun D σ H => ∃ w w0 H0 σ3 E, SR w0 H0 w H σ3 σ ∧ t E σ3 w.n ∧ EndsLe (endsOf w0 H0 w E) D
theorem tsD_le {X : Cx} {t : TS3} (D : Ends) (σ : St2) (H : Hp) (h : tsD t D σ H) : @tsOf XCt.dead X t D σ H := let ⟨w, w0, H0, r⟩ := h; ⟨w, w0, F0.dead _ w0 H0, r⟩
inductive HdsD (X : Cx) : List ExceptHandler → HdL3 → Prop
  | nil : HdsD X [] []
  | cons {t : Expr} {cs : List Value} {m : Addr → Option Bool} {ts : Addr → Addr → Option Addr → TS3} {b₀ : Stmt} {suite : List Stmt} {pos' : Pos} {hds : List ExceptHandler} {l : HdL3} (hc : Tst X t cs) (hm : ∀ C b, m C = some b → PySem.W.exmAny X.K (.ref C) cs = some b)
      (hsu : ∀ (a : Addr) (oe : Obj) (C : Addr) (d : Option Addr) (pn : List (Addr × Obj)), L2N.Zn (.ref C) d oe → (∃ vs, oe.data = .fields vs) → @DSs XCt.dead (X.suite a ((a, oe) :: pn)) (b₀ :: suite) (ts a C d)) (r : HdsD X hds l) :
      HdsD X (.ExceptHandler (some t) none (b₀ :: suite) pos' :: hds) ((m, none, ts) :: l)
  | consAs {t : Expr} {cs : List Value} {m : Addr → Option Bool} {ts : Addr → Addr → Option Addr → TS3} {b₀ : Stmt} {suite : List Stmt} {pos' : Pos} {hds : List ExceptHandler} {l : HdL3} {n : Str} {i : Nat} (hc : Tst X t cs) (hm : ∀ C b, m C = some b → PySem.W.exmAny X.K (.ref C) cs = some b)
      (hi : X.N[i]? = some n) (hln : X.env.kindOf n = some .local)
      (hsu : ∀ (a : Addr) (oe : Obj) (C : Addr) (d : Option Addr) (pn : List (Addr × Obj)), L2N.Zn (.ref C) d oe → (∃ vs, oe.data = .fields vs) → @DSs XCt.dead (X.suite a ((a, oe) :: pn)) (b₀ :: suite) (ts a C d)) (r : HdsD X hds l) :
      HdsD X (.ExceptHandler (some t) (some n) (b₀ :: suite) pos' :: hds) ((m, some i, ts) :: l)
theorem endsLe_gone {w0 : W0} {w : Wd} {H0 : Hp} {E : Ends3} {D : Ends} (le : EndsLe (endsOf w0 H0 w E) D) : ∀ o : Option Nat, EndsLe (endsOf w0 H0 w (gone3 E o)) (goneE D o)
  | none => le
  | some i => letI : XCt := XCt.dead; ⟨fun σ' H' ⟨w', σ3', sr, l, q⟩ => le.nx _ _ ⟨w', _, sr.setNone i, l, q⟩, le.rt, fun σ' H' ⟨w', σ3', sr, l, q⟩ => le.bk _ _ ⟨w', _, sr.setNone i, l, q⟩, fun σ' H' ⟨w', σ3', sr, l, q⟩ => le.ct _ _ ⟨w', _, sr.setNone i, l, q⟩⟩
theorem put_sr {w0 : W0} {w : Wd} {H0 H : Hp} {σ3 : St3} {σ : St2} {a : Addr} {x : D} (sr : SR w0 H0 w H σ3 σ) (r : DR w.B w.G x (.ref a)) : ∀ o : Option Nat, SR w0 H0 w H (put3 σ3 x o) (putE σ a o)
  | none => sr
  | some i => sr.setD i r
/-- the clauses below -/
def suite2 (ts : Addr → Addr → Option Addr → TS3) : Addr → Value → Option Addr → TS := fun a cls d D σ H => ∃ C, cls = .ref C ∧ tsD (ts a C d) D σ H
theorem hds_below {X : Cx} : ∀ {hds : List ExceptHandler} {l : HdL3}, HdsD X hds l → ∃ l2 : HdL, Hds X hds l2 ∧ ∀ (Wout : WX) (D : Ends) (xo : Exn3 → St3 → Mem → Prop) (E : Ends3) (e : Exn3) (cls : Value) (d : Option Addr) (w : Wd) (w0 : W0) (H0 : Hp) (σ3 : St3) (σ : St2) (H : Hp),
    (xo e σ3 w.n → Wout cls d σ H) → SR w0 H0 w H σ3 σ → ExcR w cls d e → EndsLe (endsOf w0 H0 w E) D → hdX xo E l e σ3 w.n → wHds X.K Wout D l2 cls d σ H := by
  intro hds l h
  have go : ∀ {m : Addr → Option Bool} {cs : List Value} {ts : Addr → Addr → Option Addr → TS3} {o : Option Nat} {l : HdL3} {l2 : HdL}, (∀ C b, m C = some b → PySem.W.exmAny X.K (.ref C) cs = some b) → 
      (∀ (Wout : WX) (D : Ends) (xo : Exn3 → St3 → Mem → Prop) (E : Ends3) (e : Exn3) (cls : Value) (d : Option Addr) (w : Wd) (w0 : W0) (H0 : Hp) (σ3 : St3) (σ : St2) (H : Hp),
        (xo e σ3 w.n → Wout cls d σ H) → SR w0 H0 w H σ3 σ → ExcR w cls d e → EndsLe (endsOf w0 H0 w E) D → hdX xo E l e σ3 w.n → wHds X.K Wout D l2 cls d σ H) →
      (∀ (Wout : WX) (D : Ends) (xo : Exn3 → St3 → Mem → Prop) (E : Ends3) (e : Exn3) (cls : Value) (d : Option Addr) (w : Wd) (w0 : W0) (H0 : Hp) (σ3 : St3) (σ : St2) (H : Hp),
        (xo e σ3 w.n → Wout cls d σ H) → SR w0 H0 w H σ3 σ → ExcR w cls d e → EndsLe (endsOf w0 H0 w E) D → hdX xo E ((m, o, ts) :: l) e σ3 w.n → wHds X.K Wout D ((cs, o, suite2 ts) :: l2) cls d σ H) := by
    intro m cs ts o l l2 hm k Wout D xo E e cls d w w0 H0 σ3 σ H ho sr er le ⟨b, hb, hy, hn⟩
    obtain ⟨ec, er2⟩ := id er
    refine ⟨b, by rw [ec]; exact hm _ _ hb, fun eb a ha => ?_, fun eb => k Wout D xo E e cls d w w0 H0 σ3 σ H ho sr er le (hn eb)⟩
    obtain ⟨h1, h2⟩ := hy eb
    refine ⟨e.C, ec, ?_⟩
    rcases er2 with ⟨ed, en, eds⟩ | ⟨dx, fs, ed, hg, en, t⟩
    · subst ed
      exact ⟨w, w0, H0, _, _, put_sr sr (by unfold DR; rfl) o, h2 en a, endsLe_gone le o⟩
    · subst ed
      exact ⟨w, w0, H0, _, _, put_sr sr (by unfold DR; exact ⟨fs, rfl, hg, en, t⟩) o, h1 a dx, endsLe_gone le o⟩
  have su : ∀ {a : Addr} {oe : Obj} {cls : Value} {d : Option Addr} {pn : List (Addr × Obj)} {sts : List Stmt} {ts : Addr → Addr → Option Addr → TS3}, (∀ (C : Addr), L2N.Zn (.ref C) d oe → @DSs XCt.dead (X.suite a ((a, oe) :: pn)) sts (ts a C d)) → L2N.Zn cls d oe → PSs (X.suite a ((a, oe) :: pn)) sts (suite2 ts a cls d) := by
    intro a oe cls d pn sts ts h hz
    refine ⟨fun pins s σ H D I ⟨C, ec, q⟩ => ?_⟩
    subst ec
    exact (@DSs.pss XCt.dead _ _ _ (h C hz)).run pins s σ H D I (tsD_le D σ H q)
  induction h with
  | nil => exact ⟨[], .nil, fun Wout D xo E e cls d w w0 H0 σ3 σ H ho sr er le h => ho h⟩
  | cons hc hm hsu r ih =>
    obtain ⟨l2, k1, k2⟩ := ih
    exact ⟨_, .cons hc (fun a oe cls d pn hz hf => su (fun C hz => hsu a oe C d pn hz hf) hz) k1, go hm k2⟩
  | consAs hc hm hi hln hsu r ih =>
    obtain ⟨l2, k1, k2⟩ := ih
    exact ⟨_, .consAs hc hi hln (fun a oe cls d pn hz hf => su (fun C hz => hsu a oe C d pn hz hf) hz) k1, go hm k2⟩
section
variable [XCt]
/-- try: the body's exceptions go to the clauses -/
def dTry (t : XCt → TS3) (l : HdL3) : TS3 := fun E σ n => t ⟨hdX XCt.xc E l⟩ E σ n
theorem ds_try {X : Cx} {body : List Stmt} {h₀ : ExceptHandler} {hds : List ExceptHandler} {l : HdL3} {pos : Pos} {t : XCt → TS3} (hs : X.stack = X.env :: X.outer) (hf : X.env.frame = some X.env.locals) (hN : X.N.Nodup)
    (hb : ∀ (xc : XCt) (pn : List (Addr × Obj)) (xe : Value → Shared → Prop), PassesOwn (model X.prog X.w) X.A X.env xe → @DSs xc (X.tr pn xe) body (t xc)) (hh : HdsD X (h₀ :: hds) l) : DS X (.Try body (h₀ :: hds) [] [] pos) (dTry t l) := by
  obtain ⟨l2, k1, k2⟩ := hds_below hh
  refine .of (ps_try_hds (tb := fun W D σ H => ∃ xc w w0, ∃ H0 : @F0 W xc w0, ∃ σ3 E, SR w0 (@F0.hp _ xc _ H0) w H σ3 σ ∧ t xc E σ3 w.n ∧ EndsLe (endsOf w0 (@F0.hp _ xc _ H0) w E) D) hs hf hN takes_wm (fun W pn xe tk po => ⟨fun pins s σ H D I ⟨xc, w, w0, H0, σ3, E, sr, q, le⟩ => ?_⟩) k1) fun w w0 H0 σ3 σ H E sr q => ?_
  · refine (@DSs.pss xc _ _ _ (hb xc pn xe po)).run pins s σ H D I ⟨w, w0, @F0.mk _ xc w0 (@F0.hp _ xc _ H0) fun e cls d w' σ3' σ' H' sr' er y => le_wm tk (@F0.xl _ xc _ H0 e cls d w' σ3' σ' H' sr' er y), σ3, E, sr, q, le⟩
  · refine ⟨⟨hdX XCt.xc E l⟩, w, ⟨w0.s, w⟩, @F0.mk _ ⟨hdX XCt.xc E l⟩ ⟨w0.s, w⟩ H0.hp fun e cls d w' σ3' σ' H' sr' er y => ?_, σ3, E, sr.rebase, q, ?_⟩
    · have sr2 : SR w0 H0.hp w' H' σ3' σ' := sr'.unbase sr.lt
      exact k2 (Wm X) (endsOf w0 H0.hp w E) XCt.xc E e cls d w' w0 H0.hp σ3' σ' H' (fun z => H0.xl e cls d w' σ3' σ' H' sr2 er z) sr2 er (endsOf.from_ sr'.lt) y
    · exact ⟨fun σ' H' ⟨w', σ3', s', l', q'⟩ => ⟨w', σ3', s'.unbase sr.lt, l', q'⟩, fun _ _ q => q, fun σ' H' ⟨w', σ3', s', l', q'⟩ => ⟨w', σ3', s'.unbase sr.lt, l', q'⟩, fun σ' H' ⟨w', σ3', s', l', q'⟩ => ⟨w', σ3', s'.unbase sr.lt, l', q'⟩⟩
end
end L3
set_option Elab.async false
set_option linter.all false
set_option maxRecDepth 100000
set_option maxHeartbeats 1000000
namespace L3
open PySem PySem.Spec PyProof.Rows L2
/-- which classes match -/
def mtL (l : List (Addr × Bool)) : Addr → Option Bool := fun C => (l.find? fun p => p.1 == C).map (·.2)
theorem mtL_ok {K : PySem.W.Frag} {l : List (Addr × Bool)} {cs : List Value} (h : ∀ p ∈ l, PySem.W.exmAny K (.ref p.1) cs = some p.2) : ∀ C b, mtL l C = some b → PySem.W.exmAny K (.ref C) cs = some b := fun C b e => by
  unfold mtL at e
  obtain ⟨p, hp, eb⟩ := Option.map_eq_some_iff.mp e
  have h1 := List.mem_of_find?_eq_some hp
  have h2 := List.find?_some hp
  have h3 : p.1 = C := by simpa using h2
  rw [← h3, ← eb]
  exact h p h1
def exmB (K : PySem.W.Frag) (l : List (Addr × Bool)) (cs : List Value) : Bool := l.all fun p => decide (PySem.W.exmAny K (.ref p.1) cs = some p.2)
theorem exmB_ok {K : PySem.W.Frag} {l : List (Addr × Bool)} {cs : List Value} (h : exmB K l cs = true) : ∀ p ∈ l, PySem.W.exmAny K (.ref p.1) cs = some p.2 := fun p hp => of_decide_eq_true (List.all_eq_true.mp h p hp)
variable [XCt]
end L3
set_option Elab.async false
set_option linter.all false
set_option maxRecDepth 100000
set_option maxHeartbeats 1000000
namespace L3
open PySem PySem.Spec PyProof.Rows L2
def Mem.cset (m : Mem) (i : Nat) (o : O) : Mem := ⟨m.n, m.cs.set i (some o)⟩
def Mem.cadd (m : Mem) (o : O) : Mem := ⟨m.n, m.cs ++ [some o]⟩
section
variable {w : Wd} {H : Hp}
/-- a new object becomes a cell -/
theorem Step.celNew {w' : Wd} {H' : Hp} (s : Step w H w' H') {l : Addr} {o : O} {ho : HO} (hn : H l = none) (g : w'.G l = none) (b : ¬ w'.B l) (at_ : H' l = some ho) (r : OR w'.B w'.G l o ho) :
    Step w H { w' with B := ⟨w'.B.bx, w'.B.ad ++ [l]⟩, n := w'.n.cadd o } H' ∧ (⟨w'.B.bx, w'.B.ad ++ [l]⟩ : Sh).ad[w'.n.cs.length]? = some l := by
  have le : w'.B.Le ⟨w'.B.bx, w'.B.ad ++ [l]⟩ := ⟨fun _ h => h, List.prefix_append _ _⟩
  have len := s.ok.cln
  have hl : l ∉ w'.B.ad := fun z => b (.inr z)
  refine ⟨⟨⟨s.ok.gh, s.ok.box, fun i a ha => ?_, ?_, ?_, s.ok.tp⟩, s.gg, s.bb.trans le, s.hh, s.newG, fun c hc nb z => ?_, s.nn⟩, ?_⟩
  · have ha : (w'.B.ad ++ [l])[i]? = some a := ha
    rcases Nat.lt_or_ge i w'.B.ad.length with q | q
    · rw [List.getElem?_append_left q] at ha
      obtain ⟨nb, h1, k⟩ := s.ok.cel i a ha
      refine ⟨nb, h1, fun o1 eo => ?_⟩
      have eo : (w'.n.cs ++ [some o])[i]? = some (some o1) := eo
      rw [List.getElem?_append_left (by omega)] at eo
      obtain ⟨g1, ho1, e2, r1⟩ := k o1 eo
      exact ⟨g1, ho1, e2, r1.mono (Ex.refl _) le⟩
    · rw [List.getElem?_append_right q] at ha
      have e0 : i - w'.B.ad.length = 0 := by
        rcases Nat.eq_zero_or_pos (i - w'.B.ad.length) with z | z
        · exact z
        · rw [List.getElem?_eq_none (by simp; omega)] at ha; cases ha
      rw [e0] at ha
      have ea : l = a := by simpa using ha
      subst ea
      refine ⟨fun z => b (.inl z), ⟨ho, at_⟩, fun o1 eo => ?_⟩
      have eo : (w'.n.cs ++ [some o])[i]? = some (some o1) := eo
      rw [List.getElem?_append_right (by omega), show i - w'.n.cs.length = 0 by omega] at eo
      have e1 : o = o1 := by simpa using eo
      subst e1
      exact ⟨g, ho, at_, r.mono (Ex.refl _) le⟩
  · show (w'.B.ad ++ [l]).Nodup
    rw [List.nodup_append]
    exact ⟨s.ok.cnd, by simp, fun x hx y hy => by
      have e : y = l := by simpa using hy
      rw [e]
      exact fun z => hl (by rw [← z]; exact hx)⟩
  · show (w'.B.ad ++ [l]).length = (w'.n.cs ++ [some o]).length
    rw [List.length_append, List.length_append, len]; rfl
  · rcases z with z | z
    · exact s.newB c hc nb (.inl z)
    · rcases List.mem_append.mp z with z | z
      · exact s.newB c hc nb (.inr z)
      · have e : c = l := by simpa using z
        rw [e] at hc
        exact hc hn
  · show (w'.B.ad ++ [l])[w'.n.cs.length]? = some l
    rw [← len, List.getElem?_append_right (Nat.le_refl _), Nat.sub_self]; rfl
theorem nodup_at {α : Type} {l : List α} (h : l.Nodup) {i j : Nat} {a : α} (e1 : l[i]? = some a) (e2 : l[j]? = some a) : i = j :=
  (List.getElem?_inj (List.getElem?_eq_some_iff.mp e1).1 h).mp (e1.trans e2.symm)
/-- a cell is changed -/
theorem Step.celSet (ok : WOk w H) {i : Nat} {a : Addr} {o o' : O} {ho' : HO} (ha : w.B.ad[i]? = some a) (hc : w.n.cs[i]? = some (some o)) (r : OR w.B w.G a o' ho') : Step w H { w with n := w.n.cset i o' } (upd H a ho') := by
  obtain ⟨nba, _, k⟩ := ok.cel i a ha
  obtain ⟨ga, ho, e0, r0⟩ := k o hc
  refine ⟨⟨fun x u e => ?_, fun b hb => ?_, fun j b hb => ?_, ok.cnd, ?_, fun x xs e => ?_⟩, Ex.refl _, .refl, fun x u e nb => ?_, fun _ _ _ e => e, fun _ _ e => e, Nat.le_refl _⟩
  · have ne : x ≠ a := fun z => by
      have e : w.G x = some u := e
      rw [z, ga] at e; cases e
    rw [upd_ne ne]; exact ok.gh x u e
  · obtain ⟨g, x, y, z, e, c⟩ := ok.box b hb
    have ne : b ≠ a := fun q => nba (by rw [← q]; exact hb)
    exact ⟨g, x, y, z, by rw [upd_ne ne]; exact e, c⟩
  · obtain ⟨nb, ⟨h1, e1⟩, kk⟩ := ok.cel j b hb
    by_cases q : j = i
    · subst q
      have hb : w.B.ad[j]? = some b := hb
      rw [ha] at hb
      cases hb
      refine ⟨nb, ⟨ho', upd_same⟩, fun o1 eo => ?_⟩
      have eo : (w.n.cs.set j (some o'))[j]? = some (some o1) := eo
      rw [List.getElem?_set_self (List.getElem?_eq_some_iff.mp hc).1] at eo
      cases eo
      exact ⟨ga, ho', upd_same, r⟩
    · have ne : b ≠ a := fun z => by
        rw [z] at hb
        exact q (nodup_at ok.cnd hb ha)
      refine ⟨nb, ⟨h1, by rw [upd_ne ne]; exact e1⟩, fun o1 eo => ?_⟩
      have eo : (w.n.cs.set i (some o'))[j]? = some (some o1) := eo
      rw [List.getElem?_set_ne (Ne.symm q)] at eo
      obtain ⟨g, ho1, e2, r1⟩ := kk o1 eo
      exact ⟨g, ho1, by rw [upd_ne ne]; exact e2, r1⟩
  · show w.B.ad.length = (w.n.cs.set i (some o')).length
    rw [List.length_set]; exact ok.cln
  · by_cases q : x = a
    · rw [q, upd_same] at e
      exact absurd (Option.some.inj e) (r.noTup xs)
    · rw [upd_ne q] at e
      exact ok.tp x xs e
  · have ne : x ≠ a := fun z => nb (by rw [z]; exact .inr (List.mem_of_getElem? ha))
    rw [upd_ne ne]; exact e
end
variable [XCt]
section
variable {X : Cx} {e : Expr} {t : TN3} {te : TE3}
/-- a new object becomes a cell -/
def dCel (t : TN3) : TE3 := fun σ n Q => t σ n fun o n1 => Q (.cel n1.cs.length) (n1.cadd o)
theorem d_cel (h : DN X e t) : DE X e (dCel t) :=
  ⟨PE.imp h.pe fun σ H Q2 ⟨w, w0, H0, σ3, Q, sr, q, k⟩ => ⟨w, w0, H0, σ3, _, sr, q, fun o v w' H' s ⟨l, ho, ev, hn, g, b, at_, r⟩ q' => by
    subst ev
    obtain ⟨st, hl⟩ := s.celNew hn g b at_ r
    exact k _ _ _ H' st (by unfold DR; exact ⟨l, rfl, hl⟩) q'⟩⟩
end
end L3
set_option Elab.async false
set_option linter.all false
set_option maxRecDepth 100000
set_option maxHeartbeats 1000000
namespace L3
open PySem PySem.Spec PyProof.Rows L2
variable [XCt]
section
variable {X : Cx} {st : Stmt} {to te ti tv : TE3} {w : Wd} {H : Hp}
/-- what stands at a cell -/
theorem cel_at {v : V} {i : Nat} {o : O} (ok : WOk w H) (r : DR w.B w.G (.cel i) v) (hc : w.n.cs[i]? = some (some o)) : ∃ a ho, v = .ref a ∧ w.B.ad[i]? = some a ∧ H a = some ho ∧ OR w.B w.G a o ho := by
  unfold DR at r
  obtain ⟨a, e, ha⟩ := r
  obtain ⟨_, _, k⟩ := ok.cel i a ha
  obtain ⟨_, ho, e2, r2⟩ := k o hc
  exact ⟨a, ho, e, ha, e2, r2⟩
theorem cel_lst {v : V} {i : Nat} {ds : List D} (ok : WOk w H) (r : DR w.B w.G (.cel i) v) (hc : w.n.cs[i]? = some (some (.lst ds))) : ∃ a xs, v = .ref a ∧ w.B.ad[i]? = some a ∧ H a = some (.lst xs) ∧ DRs w.B w.G ds xs := by
  obtain ⟨a, ho, e, ha, e2, xs, er, t⟩ := cel_at ok r hc
  subst er
  exact ⟨a, xs, e, ha, e2, t⟩
/-- the list is changed -/
theorem celLst (ok : WOk w H) {i : Nat} {a : Addr} {o : O} {ds : List D} {xs : List V} (ha : w.B.ad[i]? = some a) (hc : w.n.cs[i]? = some (some o)) (t : DRs w.B w.G ds xs) : Step w H { w with n := w.n.cset i (.lst ds) } (upd H a (.lst xs)) := Step.celSet (o' := .lst ds) ok ha hc ⟨xs, rfl, t⟩
/-- x.append(e), x a cell -/
def dAppC (to te : TE3) : TS3 := fun E σ n => to σ n fun x n1 => ∃ i ds0, x = .cel i ∧ n1.cs[i]? = some (some (.lst ds0)) ∧ te σ n1 fun d n2 => ∃ ds, n2.cs[i]? = some (some (.lst ds)) ∧ ds.length < sizeLine ∧ E.nx σ (n2.cset i (.lst (ds ++ [d])))
theorem ds_appC (hp : PS X st (tDrop (tBM X.K "list" rAppend (teOf X to) (tCons (teOf X te) tNil)))) : DS X st (dAppC to te) :=
  .of hp fun w w0 H0 σ3 σ H E sr q => teOf.use sr q fun x v w1 H1 s1 r1 ⟨i, ds0, ex, hc0, q1⟩ => by
    subst ex
    obtain ⟨a, xs0, ev, ha0, e0, _⟩ := cel_lst s1.ok r1 hc0
    subst ev
    refine ⟨.inl ⟨rfl, xs0, SqL.of e0⟩, teOf.use (sr.step s1) q1 fun d u w2 H2 s2 dr ⟨ds, hc, hz, q2⟩ => ?_⟩
    obtain ⟨b, ys, eb, ha, eh, t⟩ := cel_lst s2.ok (s2.dr r1) hc
    cases eb
    have st3 := celLst s2.ok ha hc (t.append (DRs.cons dr DRs.nil))
    exact ⟨a, ys, u, rfl, rfl, eh, by rw [← t.length]; exact hz, _, σ3, ((sr.step s1).step s2).step st3, (s1.later.trans s2.later).trans st3.later, q2⟩
/-- x[e] = v, x a cell with a dict -/
def dSetKC (to ty tv : TE3) : TS3 := fun E σ n => tv σ n fun d n1 => to σ n1 fun x n2 => ∃ i, x = .cel i ∧ ty σ n2 fun y n3 => ∃ o o', n3.cs[i]? = some (some o) ∧ o.dlen < sizeLine ∧ o.put y d = some o' ∧ E.nx σ (n3.cset i o')
theorem ds_setKC {ty : TE3} (hp : PS X st (sDPut (teOf X to) (teOf X ty) (teOf X tv))) : DS X st (dSetKC to ty tv) :=
  .of hp fun w w0 H0 σ3 σ H E sr q => teOf.use sr q fun d v w1 H1 s1 dr q1 => teOf.use (sr.step s1) q1 fun x u w2 H2 s2 r2 ⟨i, ex, q2⟩ => by
    subst ex
    refine teOf.use ((sr.step s1).step s2) q2 fun y z w3 H3 s3 dr3 ⟨o, o', hc, hz, eo, q3⟩ => ?_
    obtain ⟨a, ho, ev, ha, eh, r⟩ := cel_at s3.ok (s3.dr r2) hc
    subst ev
    have sr3 := ((sr.step s1).step s2).step s3
    have l3 := (s1.later.trans s2.later).trans s3.later
    cases o with
    | dk ks ds =>
      obtain ⟨kvs, rfl, ek, hk, t⟩ := r
      obtain ⟨k, ey, eo'⟩ := Option.map_eq_some_iff.mp (show y.key.map _ = some o' from eo)
      have eu := dr3.key ey
      subst ek
      have st4 := Step.celSet (o' := o') (ho' := .dK (putK kvs k v)) s3.ok ha hc (by
        rw [← eo']
        exact ⟨_, rfl, put_keys, putKs_all hk (D.key_ok dr3 ey), put_vals t (s3.dr (s2.dr dr))⟩)
      exact ⟨a, _, rfl, .inl ⟨kvs, k, eh, eu, by show _ < _; rw [show kvs.length = (kvs.map (·.1)).length by rw [List.length_map]]; exact hz, rfl⟩, _, σ3, sr3.step st4, l3.trans st4.later, q3⟩
    | dt ks ds =>
      obtain ⟨kvs, rfl, ek, hk, t⟩ := r
      obtain ⟨k, ey, eo'⟩ := Option.map_eq_some_iff.mp (show y.keyT.map _ = some o' from eo)
      subst ek
      cases y with
      | tup es =>
        obtain ⟨b, xs, rfl, hb, t2⟩ := dr_tup dr3
        have ex := t2.keys (show D.keys es = some k from ey)
        subst ex
        have st4 := Step.celSet (o' := o') (ho' := .dT (putK kvs k v)) s3.ok ha hc (by
          rw [← eo']
          exact ⟨_, rfl, put_keys, putKs_all hk (show kOkT k = true from D.keys_ok t2 (show D.keys es = some k from ey)), put_vals t (s3.dr (s2.dr dr))⟩)
        exact ⟨a, _, rfl, .inr ⟨kvs, k, b, eh, rfl, s3.ok.gh _ _ hb, by show _ < _; rw [show kvs.length = (kvs.map (·.1)).length by rw [List.length_map]]; exact hz, rfl⟩, _, σ3, sr3.step st4, l3.trans st4.later, q3⟩
      | _ => cases ey
    | lst ds => cases eo
    | ins C y ns ds => cases eo
end
end L3
set_option Elab.async false
set_option linter.all false
set_option maxRecDepth 100000
set_option maxHeartbeats 1000000
namespace He
open PySem PySem.Spec PyProof.Rows L2 L3
abbrev AlX : Type := AlD × Bool
def obsX (fa : List Fa) (fn : List DefD) (ex : PySem.W.Frag → Bool) (K : PySem.W.Frag) : AlX := (obsD fa fn K, ex K)
def obsXG (n : Nat) (fa : List Fa) (fn : List DefD) (ex : PySem.W.Frag → Bool) (g : Addr → Option Obj) : AlX := obsX fa fn ex (frG g (asD g n ++ [cStatics]))
def hookX (n : Nat) (fa : List Fa) (fn : List DefD) (ex : PySem.W.Frag → Bool) : PySem.W.Hook where
  α := AlX
  obs := fun s => obsXG n fa fn ex s.heap.get?
  val := fun _ => (valD fn, true)
  says := fun _ h => ∃ K : PySem.W.Frag, K.In h ∧ SaysD fa fn K ∧ ex K = true
  of := fun _ _ e => ⟨_, frG_in, congrArg (fun z : AlX => z.1) e, congrArg (fun z : AlX => z.2) e⟩
  keeps := fun _ _ _ ⟨K, hK, c⟩ k => ⟨K, PySem.W.Frag.In.keeps hK k, c⟩
theorem obsXG_eq {n : Nat} {fa : List Fa} {fn : List DefD} {ex : PySem.W.Frag → Bool} {g : Addr → Option Obj} {s : Shared} (h : ∀ a, g a = s.heap.get? a) : obsXG n fa fn ex g = (hookX n fa fn ex).obs s := by
  have e : g = s.heap.get? := funext h
  rw [e] <;> rfl
def insCB (K : PySem.W.Frag) (x : Str) : Bool := (Fa.cls x).ok K && (eqO (PySem.W.findIn K (.ref (ga K x)) "__class__") (some (some (.builtin "object.__class__"))) && (decide (PySem.W.specialIn K (.builtin "object.__class__") "__get__" = some (some (.builtin "getset_descriptor.__get__"))) &&
  (decide (PySem.W.takesIn K (.builtin "object.__class__") = some true) && (decide (PySem.W.mroIn K (ga K x) (.type "object") = some true) && decide (PySem.W.kitOne K (.ref (ga K x)) (.ref (ga K x)) = some true)))))
theorem insCB_ok {K : PySem.W.Frag} {x : Str} (h : insCB K x = true) : C8.InsC K (ga K x) := by
  obtain ⟨a, h⟩ := ba h
  obtain ⟨b, h⟩ := ba h
  obtain ⟨c, h⟩ := ba h
  obtain ⟨d, h⟩ := ba h
  obtain ⟨e, f⟩ := ba h
  exact ⟨cls_ok a, eqO_ok b, of_decide_eq_true c, of_decide_eq_true d, of_decide_eq_true e, of_decide_eq_true f⟩
def insAllB (K : PySem.W.Frag) (xs : List Str) : Bool := xs.all (insCB K)
def ownBB (K : PySem.W.Frag) (T : String) (xs : List Str) : Bool := xs.all fun x => decide (PySem.W.kitOne K (.ref (ga K x)) (.type T) = some false)
theorem ownBB_ok {K : PySem.W.Frag} {T : String} {xs : List Str} (hi : insAllB K xs = true) (h : ownBB K T xs = true) : OwnB K T (xs.map (ga K)) := ⟨fun C hC => by
  obtain ⟨x, hx, rfl⟩ := List.mem_map.mp hC
  exact ⟨insCB_ok (List.all_eq_true.mp hi x hx), of_decide_eq_true (List.all_eq_true.mp h x hx)⟩⟩
end He
theorem He.ex_at {l : List Bool} (h : l.all id = true) (i : Nat) {b : Bool} (e : l[i]? = some b := by rfl) : b = true := List.all_eq_true.mp h b (List.mem_of_getElem? e)
namespace L3
open PySem PySem.Spec PyProof.Rows L2
/-- the law's call: the script alone -/
theorem start_scr {K : PySem.W.Frag} {H : Hp} {a : Addr} {ns : List Int} {sp : Sp3} {E : XK} (h : sp [.scr K ns] ⟨0, []⟩ (fun d _ => d = .bl true) fun _ _ => False) (hS : SqL K H a (ns.map V.int)) : spOf sp [.ref a] H (fun v _ => v = .bl true) E := by
  refine ⟨⟨H, ⟨fun _ => False, []⟩, ⟨0, []⟩⟩, [.scr K ns], _, _, ⟨Ex.refl _, fun _ z => z.elim, fun i a e => by simp at e, List.nodup_nil, rfl, fun _ _ e => e⟩, DRs.cons ?_ DRs.nil, h, fun d v w' H' st dr e => ?_, fun _ _ _ _ _ _ _ z => z.elim⟩
  · unfold DR; exact ⟨a, rfl, hS⟩
  · subst e
    unfold DR at dr
    exact dr
end L3
set_option Elab.async false
set_option linter.all false
set_option maxRecDepth 100000
set_option maxHeartbeats 1000000
namespace He
open PySem PySem.Spec PyProof.Rows L2 L3
def oexB (K : PySem.W.Frag) (C : Addr) : Bool := match K.lookup C with
  | some ⟨.type "type", _, .cls cd, sl⟩ => (match cd.mro, sl.toList with
    | .ref C' :: bm, [_, _, _, _, some (.builtin n), _] => C' == C && (n == "ValueError.__new__" && (!cd.hasDel && (cd.hasDict && PySem.HandSPX.refsVE bm)))
    | _, _ => false)
  | _ => false
theorem oexB_ok {K : PySem.W.Frag} {C : Addr} (q : oexB K C = true) : ∃ nm q N bs bm sn sub ab col dd k0 k1 k2 k3 k5, K.lookup C = some (excClassObj nm q C N bs bm true sn sub ab col dd k0 k1 k2 k3 k5 "ValueError.__new__") ∧ PySem.HandSPX.refsVE bm = true := by
  unfold oexB at q
  split at q
  · rename_i dd cd sl ho
    split at q
    · rename_i C' bm k0 k1 k2 k3 n k5 hm hs
      simp only [Bool.and_eq_true, beq_iff_eq, Bool.not_eq_true'] at q
      obtain ⟨rfl, rfl, hdel, hdc, ht⟩ := q
      obtain ⟨nm, bs, mro, ns, qn, hd, sn, sub, ab, col, del⟩ := cd
      dsimp only at hm hdel hdc
      subst hm hdel hdc
      have hsl : sl = #[k0, k1, k2, k3, some (.builtin "ValueError.__new__"), k5] := by
        obtain ⟨l⟩ := sl
        simp only at hs
        rw [hs]
      subst hsl
      exact ⟨nm, qn, ns, bs, bm, sn, sub, ab, col, dd, k0, k1, k2, k3, k5, ho, ht⟩
    · cases q
  · cases q
def oexCB (K : PySem.W.Frag) (C : Addr) : Bool := oexB K C && (eqO (PySem.W.findIn K (.ref C) "__setattr__") (some (some (.builtin "object.__setattr__"))) && (decide (PySem.W.subIn K (.ref C) (.type "BaseException") = some true) && (decide (PySem.W.typeIn K (.ref C) = some (.type "type")) && PySem.W.keepIn K (.ref C))))
theorem oexCB_ok {K : PySem.W.Frag} {C : Addr} (h : oexCB K C = true) : OexC K C := by
  obtain ⟨a, h⟩ := ba h
  obtain ⟨b, h⟩ := ba h
  obtain ⟨c, h⟩ := ba h
  obtain ⟨d, e⟩ := ba h
  exact ⟨oexB_ok a, eqO_ok b, of_decide_eq_true c, of_decide_eq_true d, e⟩
def veInit (r : Option PySem.W.CFound) : Bool := match r with
  | some (.val (.builtin n)) => n == "ValueError.__init__"
  | _ => false
theorem veInit_ok {r : Option PySem.W.CFound} (h : veInit r = true) : r = some (.val (.builtin "ValueError.__init__")) := by
  unfold veInit at h
  split at h
  · rw [eq_of_beq h]
  · cases h
def oexBB (K : PySem.W.Frag) (CB : Addr) : Bool := decide (PySem.W.specialIn K (.ref CB) "__getattribute__" = some (some (.builtin "type.__getattribute__"))) && (PySem.W.readsIn K CB (.type "type") && (decide (PySem.W.typeIn K (.ref CB) = some (.type "type")) && veInit (PySem.W.findCls K (.ref CB) (.type "type") "__init__")))
theorem oexBB_ok {K : PySem.W.Frag} {CB : Addr} (h : oexBB K CB = true) : OexB K CB := by
  obtain ⟨a, h⟩ := ba h
  obtain ⟨b, h⟩ := ba h
  obtain ⟨c, d⟩ := ba h
  exact ⟨of_decide_eq_true a, b, of_decide_eq_true c, veInit_ok d⟩
/-- the class, its __init__, its field -/
structure ExcF (K : PySem.W.Frag) (C : Addr) (f : Str) : Prop where
  oex : OexC K C
  ini : PySem.W.findIn K (.ref C) "__init__" = some (some (.ref (ma K C "__init__")))
  ty : PySem.W.typeIn K (.ref (ma K C "__init__")) = some (.type "function")
  no : PySem.W.findIn K (.ref C) f = some none
def excAB (K : PySem.W.Frag) (C : Addr) (f : Str) : Bool := oexCB K C && (eqO (PySem.W.findIn K (.ref C) "__init__") (some (some (.ref (ma K C "__init__")))) && (decide (PySem.W.typeIn K (.ref (ma K C "__init__")) = some (.type "function")) && decide (PySem.W.findIn K (.ref C) f = some none)))
theorem excAB_ok {K : PySem.W.Frag} {C : Addr} {f : Str} (h : excAB K C f = true) : ExcF K C f := by
  obtain ⟨a, h⟩ := ba h
  obtain ⟨b, h⟩ := ba h
  obtain ⟨c, d⟩ := ba h
  exact ⟨oexCB_ok a, eqO_ok b, of_decide_eq_true c, of_decide_eq_true d⟩
def xfAB (K : PySem.W.Frag) (Cs : List Addr) (f : Str) : Bool := Cs.all fun C => xfB K C && decide (PySem.W.findIn K (.ref C) f = some none)
theorem xfAB_ok {K : PySem.W.Frag} {Cs : List Addr} {f : Str} (h : xfAB K Cs f = true) : ∀ C ∈ Cs, XfC K C ∧ PySem.W.findIn K (.ref C) f = some none := fun C hC => by
  obtain ⟨a, b⟩ := ba (List.all_eq_true.mp h C hC)
  exact ⟨xfB_ok a, of_decide_eq_true b⟩
end He
namespace L3
open PySem PySem.Spec PyProof.Rows L2 He
/-- an own exception with such an __init__ -/
theorem exc3_of {P : Program} {w : World} {K : PySem.W.Frag} {mg : Str → Option Value} {base : Heap} {C : Addr} {f n qual : Str} {params : Arguments} {body : List Stmt} {scope : Scope} {fd : FuncData} (h : ExcF K C f) (F : FunD K "__init__" qual params body scope [] [] (ma K C "__init__") fd) (S : FnScope ["self", n] ["self", n] scope)
    (hb : ∀ (cdv : Value) (A : Around) (outer : List Env) (s : Shared) (H : Hp) (E : XK), PSs (cxOf (L2N.CX P w) P w K mg base ["self", n] qual scope (ma K C "__init__") cdv A outer s H E) body (tExc K f)) (bd : Binds K fd ["self", n] []) : Exc3 P w K mg base 1 C f :=
  ⟨_, fd, n, h.ini, h.ty, ok_exc (k := 0) F S hb, bd, h.oex, h.no⟩
end L3
set_option Elab.async false
set_option linter.all false
set_option maxRecDepth 100000
set_option maxHeartbeats 1000000
namespace L3
open PySem PySem.Spec PyProof.Rows L2
end L3
set_option Elab.async false
set_option linter.all false
set_option maxRecDepth 100000
set_option maxHeartbeats 3200000
set_option Elab.async false
set_option linter.all false
set_option maxRecDepth 100000
set_option maxHeartbeats 2000000
namespace L2
open PySem PySem.Spec PyProof.Rows
end L2
namespace L3
open PySem PySem.Spec PyProof.Rows L2
variable [XCt]
section
variable {X : Cx} {e e2 o : Expr} {te ta tb : TE3} {p p2 pos pos2 apos cpos q : Pos} {st : Stmt}
/-- sum of whole numbers -/
def rSum3 : RC3 := fun ds n Q => ∃ ns : List Int, ds = [.lst (ns.map .int)] ∧ Q (.int ns.sum) n
/-- int(x), bool(x) of whole numbers and truths -/
def rInt3 : RC3 := fun ds n Q => (∃ i, ds = [.int i] ∧ Q (.int i) n) ∨ ∃ b, ds = [.bl b] ∧ Q (.int (if b then 1 else 0)) n
def rBool3 : RC3 := fun ds n Q => (∃ i, ds = [.int i] ∧ Q (.bl (i != 0)) n) ∨ ∃ b, ds = [.bl b] ∧ Q (.bl b) n
end
end L3
set_option Elab.async false
set_option linter.all false
set_option maxRecDepth 100000
set_option maxHeartbeats 2000000
namespace L2
open PySem PySem.Spec PyProof.Rows
end L2
namespace L3
open PySem PySem.Spec PyProof.Rows L2
variable [XCt]
abbrev TV3 := St3 → Mem → (S3 → Mem → Prop) → Prop
def SVal (H : Hp) (w' : Wd) (H' : Hp) : S3 → V → Prop
  | .dat d, v => DR w'.B w'.G d v
  | .own o, v => NR H w' H' o v
def tsvOf (X : Cx) (t : TV3) : TE := fun σ H Q2 => ∃ w w0, ∃ H0 : F0 (Wm X) w0, ∃ σ3 Q, SR w0 H0 w H σ3 σ ∧ t σ3 w.n Q ∧ ∀ s v w' H', Step w H w' H' → SVal H w' H' s v → Q s w'.n → Q2 v H'
structure DVal (X : Cx) (e : Expr) (t : TV3) : Prop where
  pe : PE X e (tsvOf X t)
def vD (t : TE3) : TV3 := fun σ n Q => t σ n fun d n1 => Q (.dat d) n1
theorem dv_d {X : Cx} {e : Expr} {t : TE3} (h : DE X e t) : DVal X e (vD t) := ⟨PE.imp h.pe fun σ H Q2 ⟨w, w0, H0, σ3, Q, sr, q, k⟩ => ⟨w, w0, H0, σ3, _, sr, q, fun d v w' H' s r q' => k (.dat d) v w' H' s r q'⟩⟩
def dSet2 (t1 t2 : TV3) (i j : Nat) : TS3 := fun E σ n => t1 σ n fun a n1 => t2 σ n1 fun b n2 => E.nx ((σ.set i (some a)).set j (some b)) n2
/-- what may be laid in a slot -/
def SHeld (H0 : Hp) (w : Wd) (H : Hp) : S3 → V → Prop
  | .dat d, v => DR w.B w.G d v
  | .own o, v => ∃ l, v = .ref l ∧ Own H0 w H o l
theorem SHeld.step {H0 : Hp} {w w1 : Wd} {H H1 : Hp} {s : S3} {v : V} (h : SHeld H0 w H s v) (st : Step w H w1 H1) : SHeld H0 w1 H1 s v := by
  cases s with
  | dat d => exact st.dr h
  | own o => obtain ⟨l, e, ow⟩ := h; exact ⟨l, e, ow.step st⟩
theorem SR.setS {w0 : W0} {w : Wd} {H0 H : Hp} {σ3 : St3} {σ : St2} (h : SR w0 H0 w H σ3 σ) (i : Nat) {s : S3} {v : V} (r : SHeld H0 w H s v) (hn : ∀ (l : Addr), v = .ref l → (∃ o, s = .own o) → ∀ (j : Nat) (o' : O), j ≠ i → σ3[j]? = some (some (S3.own o')) → σ[j]? ≠ some (some (V.ref l))) :
    SR w0 H0 w H (σ3.set i (some s)) (σ.set i (some v)) := by
  cases s with
  | dat d => exact h.setD i r
  | own o =>
    obtain ⟨l, e, ow⟩ := r
    subst e
    exact h.setO i ow (hn l rfl ⟨o, rfl⟩)
theorem SVal.held {w0 : W0} {H0 : Hp} {w w1 : Wd} {H H1 : Hp} {σ3 : St3} {σ : St2} {s : S3} {v : V} (sr : SR w0 H0 w H σ3 σ) (h : SVal H w1 H1 s v) : SHeld H0 w1 H1 s v := by
  cases s with
  | dat d => exact h
  | own o =>
    obtain ⟨l, ho, e, hn, g, b, at_, r⟩ := h
    exact ⟨l, e, g, b, sr.st.fresh hn, ho, at_, r⟩
theorem ds_set2 {X : Cx} {st : Stmt} {t1 t2 : TV3} {i j : Nat} (hij : i ≠ j) (hp : PS X st (tPar i j (tCons (tsvOf X t1) (tCons (tsvOf X t2) tNil)))) : DS X st (dSet2 t1 t2 i j) :=
  .of hp fun w w0 H0 σ3 σ H E sr q => by
    refine ⟨w, w0, H0, σ3, _, sr, q, fun a v w1 H1 s1 r1 q1 => ⟨w1, w0, H0, σ3, _, sr.step s1, q1, fun b u w2 H2 s2 r2 q2 => ⟨v, u, rfl, ?_⟩⟩⟩
    have hA := (SVal.held sr r1).step s2
    have hB := SVal.held (sr.step s1) r2
    have srA : SR w0 H0 _ _ σ3 σ := (sr.step s1).step s2
    have sr1 := srA.setS i hA fun l el ⟨o, eo⟩ k o' _ ek => by
      subst eo el
      obtain ⟨l', ho, e', hn, _⟩ := r1
      cases e'
      exact sr.fresh_ne (w1 := w) (H1 := H) hn k o' ek
    have sr2 := sr1.setS j hB fun l el ⟨o, eo⟩ k o' hk ek => by
      subst eo el
      obtain ⟨l', ho, e', hn, _⟩ := r2
      cases e'
      by_cases q3 : i = k
      · subst q3
        intro z
        have hi := lt_of_set z
        rw [List.getElem?_set_self hi] at z
        have z := Option.some.inj (Option.some.inj z)
        subst z
        have hi2 := lt_of_set ek
        rw [List.getElem?_set_self hi2] at ek
        cases ek
        obtain ⟨l2, ho2, e2, hn2, g2, b2, at2, _⟩ := r1
        cases e2
        rw [hn] at at2
        cases at2
      · rw [List.getElem?_set_ne q3] at ek ⊢
        exact (sr.step s1).fresh_ne (w1 := w) (H1 := H) hn k o' ek
    exact ⟨_, _, sr2, s1.later.trans s2.later, q2⟩
section
variable {X : Cx} {j k n : Nat} {f C : Addr} {ps ks : List Str} {sp : Sp3} {x m : Str} {p pos apos : Pos} {e o fe : Expr} {es : List Expr} {kws : List Keyword} {t tk : TA3} {to tf : TE3} {gD : List D → List D → List D}
theorem Fun3.mono {P : Program} {w : World} {K : PySem.W.Frag} {mg : Str → Option Value} {base : Heap} {j k : Nat} {f : Addr} {ps : List Str} {sp : Sp3} (h : Fun3 P w K mg base j f ps sp) (hj : j ≤ k) : Fun3 P w K mg base k f ps sp := by
  obtain ⟨fd, F, b, kp⟩ := h
  exact ⟨fd, F.mono hj, b, kp⟩
end
end L3
set_option Elab.async false
set_option linter.all false
set_option maxRecDepth 100000
set_option maxHeartbeats 2000000
namespace L2
open PySem PySem.Spec PyProof.Rows
end L2
set_option Elab.async false
set_option linter.all false
set_option maxRecDepth 100000
set_option maxHeartbeats 2000000
namespace L2
open PySem PySem.Spec PyProof.Rows
end L2
namespace L3
open PySem PySem.Spec PyProof.Rows L2
end L3
set_option Elab.async false
set_option linter.all false
set_option maxRecDepth 100000
set_option maxHeartbeats 2000000
namespace L2
open PySem PySem.Spec PyProof.Rows PySem.Calls
end L2
namespace L3
open PySem PySem.Spec PyProof.Rows L2
end L3
set_option Elab.async false
set_option linter.all false
set_option maxRecDepth 100000
set_option maxHeartbeats 2000000
namespace L3
open PySem PySem.Spec PyProof.Rows L2
end L3
set_option Elab.async false
set_option linter.all false
set_option maxRecDepth 100000
set_option maxHeartbeats 1000000
namespace L3
open PySem PySem.Spec PyProof.Rows L2
/-- a computation: what must be so of the memory for a wish, and a wish for exceptions -/
structure MP (α : Type) where
  run : Mem → (α → Mem → Prop) → X3 → Prop
  mono : ∀ {m : Mem} {K K' : α → Mem → Prop} {X X' : X3}, (∀ a m', K a m' → K' a m') → (∀ e m', X e m' → X' e m') → run m K X → run m K' X'
theorem MP.ext {α : Type} {x y : MP α} (h : ∀ m K X, x.run m K X ↔ y.run m K X) : x = y := by
  obtain ⟨r, _⟩ := x
  obtain ⟨s, _⟩ := y
  have e : r = s := funext fun m => funext fun K => funext fun X => propext (h m K X)
  subst e; rfl
instance : Monad MP where
  pure a := ⟨fun m K _ => K a m, fun h _ q => h _ _ q⟩
  bind x f := ⟨fun m K X => x.run m (fun a m1 => (f a).run m1 K X) X, fun h h' q => x.mono (fun a _ q => (f a).mono h h' q) h' q⟩
section
variable {α β γ : Type}
theorem mp_pb (a : α) (f : α → MP β) : ((pure a : MP α) >>= f) = f a := rfl
theorem mp_bb (x : MP α) (f : α → MP β) (g : β → MP γ) : (x >>= f >>= g) = (x >>= fun a => f a >>= g) := rfl
theorem mp_bp (x : MP α) : (x >>= fun a => (pure a : MP α)) = x := rfl
/-- an exception -/
def MP.raise (e : Exn3) : MP α := ⟨fun m _ X => X e m, fun _ h q => h _ _ q⟩
theorem mp_rb (e : Exn3) (f : α → MP β) : ((MP.raise e : MP α) >>= f) = MP.raise e := rfl
def MP.bad : MP α := ⟨fun _ _ _ => False, fun _ _ q => q⟩
/-- it must be so now -/
def MP.chk (P : Mem → Prop) : MP Unit := ⟨fun m K _ => P m ∧ K () m, fun h _ q => ⟨q.1, h _ _ q.2⟩⟩
theorem chk_yes {P : Mem → Prop} (h : ∀ m, P m) : MP.chk P = pure () := MP.ext fun m K X => ⟨fun q => q.2, fun q => ⟨h m, q⟩⟩
theorem chk_true : (MP.chk fun _ => True) = pure () := chk_yes fun _ => trivial
theorem chk_iff {p : Prop} (h : p) : (MP.chk fun _ => p) = pure () := chk_yes fun _ => h
/-- nothing may be raised -/
def MP.noX (x : MP α) : MP α := ⟨fun m K _ => x.run m K (fun _ _ => False), fun h _ q => x.mono h (fun _ _ z => z) q⟩
/-- any at all -/
def MP.any (β : Type) : MP β := ⟨fun m K _ => ∀ b, K b m, fun h _ q b => h _ _ (q b)⟩
/-- what follows, named -/
def Jn {S R : Type} (j : S → MP R) (body : (S → MP R) → MP R) : MP R := body j
def ap2 (x : MP α) (y : MP β) (f : α → β → MP γ) : MP γ := x >>= fun a => y >>= fun b => f a b
theorem ap2_pp (a : α) (b : β) (f : α → β → MP γ) : ap2 (pure a) (pure b) f = f a b := rfl
end
class Mo2 (r : R23) : Prop where
  mo : ∀ {x y : D} {n : Mem} {Q Q' : K3}, (∀ d n', Q d n' → Q' d n') → r x y n Q → r x y n Q'
class MoC (r : RC3) : Prop where
  mo : ∀ {ds : List D} {n : Mem} {Q Q' : K3}, (∀ d n', Q d n' → Q' d n') → r ds n Q → r ds n Q'
instance {r : R23} [h : Mo2 r] : Mo2 (rDer r) := ⟨fun k q => h.mo k q⟩
instance {r : RC3} [h : MoC r] : MoC (cDer r) := ⟨fun k q => h.mo k q⟩
instance : Mo2 rAdd3 := ⟨fun {x y n Q Q'} h q => by cases x <;> cases y <;> first | exact h _ _ q | exact ⟨q.1, h _ _ q.2⟩ | exact q⟩
instance : Mo2 rSub3 := ⟨fun {x y n Q Q'} h q => by cases x <;> cases y <;> first | exact h _ _ q | exact ⟨q.1, h _ _ q.2⟩ | exact q⟩
instance : Mo2 rMul3 := ⟨fun {x y n Q Q'} h q => by cases x <;> cases y <;> first | exact h _ _ q | exact ⟨q.1, h _ _ q.2⟩ | exact q⟩
instance : Mo2 rMod3 := ⟨fun {x y n Q Q'} h q => by cases x <;> cases y <;> first | exact h _ _ q | exact ⟨q.1, h _ _ q.2⟩ | exact q⟩
instance : Mo2 rDiv3 := ⟨fun {x y n Q Q'} h q => by cases x <;> cases y <;> first | exact h _ _ q | exact ⟨q.1, h _ _ q.2⟩ | exact q⟩
instance : Mo2 rPow3 := ⟨fun {x y n Q Q'} h q => by cases x <;> cases y <;> first | exact h _ _ q | exact ⟨q.1, h _ _ q.2⟩ | exact q⟩
instance {p} : Mo2 (rCmp3 p) := ⟨fun {x y n Q Q'} h q => by cases x <;> cases y <;> first | exact h _ _ q | exact ⟨q.1, h _ _ q.2⟩ | exact q⟩
instance {b} : Mo2 (rEq3 b) := ⟨fun {x y n Q Q'} h q => ⟨q.1, q.2.1, h _ _ q.2.2⟩⟩
instance {b} : Mo2 (rEqA3 b) := ⟨fun {x y n Q Q'} h q => by
  have go : rEq3 b x y n Q → rEq3 b x y n Q' := fun q => Mo2.mo h q
  cases x with
  | raw v => cases v with
    | str a => cases y with
      | raw u => cases u <;> first | exact h _ _ q | exact go q
      | _ => exact go q
    | _ => exact go q
  | dk ks ds => cases y <;> first | exact h _ _ q | exact go q
  | _ => exact go q⟩
instance {b} : Mo2 (rIs3 b) := ⟨fun {x y n Q Q'} h q => by cases y <;> cases x <;> first | exact h _ _ q | exact q⟩
instance {b} : Mo2 (rIn3 b) := ⟨fun {x y n Q Q'} h q => by
  cases y with
  | str z => cases x <;> first | exact (let ⟨k, e, q⟩ := q; ⟨k, e, h _ _ q⟩) | exact q
  | lst ds => exact ⟨q.1, q.2.1, h _ _ q.2.2⟩
  | tup ds => exact ⟨q.1, q.2.1, h _ _ q.2.2⟩
  | _ => exact q⟩
instance {b} : Mo2 (rInA3 b) := ⟨fun {x y n Q Q'} h q => by
  have go : rIn3 b x y n Q → rIn3 b x y n Q' := fun q => Mo2.mo h q
  cases y <;> first | exact (let ⟨o, e, q⟩ := q; ⟨o, e, h _ _ q⟩) | exact go q⟩
instance : Mo2 rIx3 := ⟨fun {x y n Q Q'} h q => by
  cases x <;> cases y <;> first | exact (let ⟨d, e, q⟩ := q; ⟨d, e, h _ _ q⟩) | exact (let ⟨hz, d, e, q⟩ := q; ⟨hz, d, e, h _ _ q⟩) | exact q⟩
instance {K} : Mo2 (rIxA3 K) := ⟨fun {x y n Q Q'} h q => by
  have go : rIx3 x y n Q → rIx3 x y n Q' := fun q => Mo2.mo h q
  cases x <;> first | exact (let ⟨d, e, q⟩ := q; ⟨d, e, h _ _ q⟩) | exact (let ⟨hz, i, j, e1, e2, q⟩ := q; ⟨hz, i, j, e1, e2, h _ _ q⟩) | exact go q⟩
instance {K} : MoC (rLen3 K) := ⟨fun h ⟨d, k, a, b, c, q⟩ => ⟨d, k, a, b, c, h _ _ q⟩⟩
instance {p cv} : MoC (rIsi3 p cv) := ⟨fun h ⟨d, k, a, b, q⟩ => ⟨d, k, a, b, h _ _ q⟩⟩
instance {p p' c c'} : MoC (rIsi23 p p' c c') := ⟨fun h ⟨d, k, l, a, b, c, q⟩ => ⟨d, k, l, a, b, c, h _ _ q⟩⟩
instance {g} : MoC (rAll3 g) := ⟨fun h ⟨d, a, q⟩ => ⟨d, a, h _ _ q⟩⟩
instance {g} : MoC (rInt23 g) := ⟨fun h ⟨d, k, a, q⟩ => ⟨d, k, a, h _ _ q⟩⟩
instance : MoC rAbs3 := ⟨fun h ⟨d, a, q⟩ => ⟨d, a, h _ _ q⟩⟩
instance : MoC rStrInt3 := ⟨fun h ⟨d, a, b, c, q⟩ => ⟨d, a, b, c, h _ _ q⟩⟩
instance : MoC rIntStr3 := ⟨fun h ⟨d, k, a, b, c, q⟩ => ⟨d, k, a, b, c, h _ _ q⟩⟩
instance : MoC rTup3 := ⟨fun h ⟨d, k, a, b, q⟩ => ⟨d, k, a, b, h _ _ q⟩⟩
instance : MoC rRepr3 := ⟨fun h ⟨d, a, b, q⟩ => ⟨d, a, b, h _ _ q⟩⟩
def opM (r : R23) [Mo2 r] (x y : D) : MP D := ⟨fun m K _ => r x y m K, fun h _ q => Mo2.mo h q⟩
def cbM (r : RC3) [MoC r] (ds : List D) : MP D := ⟨fun m K _ => r ds m K, fun h _ q => MoC.mo h q⟩
def asB (d : D) : MP Bool := ⟨fun m K _ => ∃ b, d = .bl b ∧ K b m, fun h _ ⟨b, e, q⟩ => ⟨b, e, h _ _ q⟩⟩
theorem asB_bl (b : Bool) : asB (.bl b) = pure b := MP.ext fun m K X => ⟨fun ⟨c, e, q⟩ => by cases e; exact q, fun q => ⟨b, rfl, q⟩⟩
def asI (d : D) : MP Int := ⟨fun m K _ => ∃ b, d = .int b ∧ K b m, fun h _ ⟨b, e, q⟩ => ⟨b, e, h _ _ q⟩⟩
theorem asI_int (b : Int) : asI (.int b) = pure b := MP.ext fun m K X => ⟨fun ⟨c, e, q⟩ => by cases e; exact q, fun q => ⟨b, rfl, q⟩⟩
abbrev TX (α : Type) := St3 → Mem → (α → Mem → Prop) → Prop
section
variable [XCt]
/-- a reading does at these names' values what the computation does -/
def Ev1 {α : Type} (t : TX α) (σ : St3) (x : MP α) : Prop := ∀ m Q, x.run m Q (fun e m' => XCt.xc e σ m') → t σ m Q
theorem Ev1.go {α β : Type} {t : TX α} {σ : St3} {x : MP α} {f : α → MP β} (h : Ev1 t σ x) {m : Mem} {Q : β → Mem → Prop} {Q2 : α → Mem → Prop} (q : (x >>= f).run m Q (fun e m' => XCt.xc e σ m'))
    (k : ∀ a m', (f a).run m' Q (fun e m' => XCt.xc e σ m') → Q2 a m') : t σ m Q2 := h m Q2 (x.mono (fun a m' q => k a m' q) (fun _ _ z => z) q)
theorem Ev1.go1 {α : Type} {t : TX α} {σ : St3} {x : MP α} (h : Ev1 t σ x) {m : Mem} {Q Q2 : α → Mem → Prop} (q : x.run m Q (fun e m' => XCt.xc e σ m'))
    (k : ∀ a m', Q a m' → Q2 a m') : t σ m Q2 := h m Q2 (x.mono k (fun _ _ z => z) q)
variable {σ : St3} {ta tb tc te : TE3} {x y z : MP D} {tt uu : TT3} {c c' : MP Bool} {ts tr : TA3} {xs ys : MP (List D)} {tn : TN3} {xn : MP O}
theorem ev_c {d : D} : Ev1 (dC d) σ (pure d) := fun _ _ q => q
theorem ev_var {i : Nat} {d : D} (h : σ[i]? = some (some (S3.dat d))) : Ev1 (dVar i) σ (pure d) := fun _ _ q => ⟨d, h, q⟩
theorem ev_vd {i : Nat} {d : D} (h : σ[i]? = some (some (S3.dat d))) : Ev1 (dView i) σ (pure d) := fun _ _ q => ⟨_, h, q⟩
theorem ev_nil : Ev1 dNil σ (pure []) := fun _ _ q => q
def consA (x : MP D) (xs : MP (List D)) : MP (List D) := ap2 x xs fun d ds => pure (d :: ds)
theorem consA_pp (d : D) (ds : List D) : consA (pure d) (pure ds) = pure (d :: ds) := rfl
theorem ev_cons (h : Ev1 te σ x) (hs : Ev1 ts σ xs) : Ev1 (dCons te ts) σ (consA x xs) := fun m Q q => h.go q fun _ _ q => hs.go q fun _ _ q => q
theorem ev_op {r : R23} [Mo2 r] (ha : Ev1 ta σ x) (hb : Ev1 tb σ y) : Ev1 (dOp r ta tb) σ (ap2 x y (opM r)) := fun m Q q => ha.go q fun _ _ q => hb.go q fun _ _ q => q
theorem ev_test (h : Ev1 te σ x) : Ev1 (dTest te) σ (x >>= asB) := fun m Q q => h.go q fun _ _ q => q
/-- a < b < c -/
def chM (r r' : R23) [Mo2 r] [Mo2 r'] (x y z : MP D) : MP D := x >>= fun a => y >>= fun b => opM r a b >>= fun u => asB u >>= fun t => if t = true then z >>= fun c => opM r' b c else pure (.bl false)
def cAnd (c d : MP Bool) : MP Bool := c >>= fun b => if b = true then d else pure false
def cOr (c d : MP Bool) : MP Bool := c >>= fun b => if b = true then pure true else d
def cNot (c : MP Bool) : MP Bool := c >>= fun b => pure (!b)
theorem ev_or (h : Ev1 tt σ c) (k : Ev1 uu σ c') : Ev1 (dOr tt uu) σ (cOr c c') := fun m Q q => h.go q fun b _ q => by
  cases b with
  | false => exact k.go1 q fun _ _ q => q
  | true => exact q
theorem ev_not (h : Ev1 tt σ c) : Ev1 (dNot tt) σ (cNot c) := fun m Q q => h.go q fun b _ q => q
def andV (x y : MP D) : MP D := x >>= fun d => asB d >>= fun b => if b = true then y else pure (.bl false)
def orV (x y : MP D) : MP D := x >>= fun d => asB d >>= fun b => if b = true then pure (.bl true) else y
def notV (x : MP D) : MP D := x >>= fun d => asB d >>= fun b => pure (.bl (!b))
theorem ev_andV (h : Ev1 ta σ x) (k : Ev1 tb σ y) : Ev1 (dAndV ta tb) σ (andV x y) := fun m Q q => h.go q fun d _ ⟨b, e, q⟩ => by
  refine ⟨b, e, ?_⟩
  cases b with
  | true => exact k.go1 q fun _ _ q => q
  | false => exact q
def ifE (c : MP Bool) (x y : MP D) : MP D := c >>= fun b => if b = true then x else y
theorem ev_ifE (hc : Ev1 tt σ c) (h : Ev1 ta σ x) (k : Ev1 tb σ y) : Ev1 (dIfE tt ta tb) σ (ifE c x y) := fun m Q q => hc.go q fun b _ q => by
  cases b with
  | false => exact k.go1 q fun _ _ q => q
  | true => exact h.go1 q fun _ _ q => q
def negM (d : D) : MP D := ⟨fun m K _ => ∃ i, d = .int i ∧ K (.int (-i)) m, fun h _ ⟨i, e, q⟩ => ⟨i, e, h _ _ q⟩⟩
theorem negM_int (i : Int) : negM (.int i) = pure (.int (-i)) := MP.ext fun m K X => ⟨fun ⟨c, e, q⟩ => by cases e; exact q, fun q => ⟨i, rfl, q⟩⟩
theorem ev_neg (h : Ev1 ta σ x) : Ev1 (dNeg ta) σ (x >>= negM) := fun m Q q => h.go q fun d _ q => q
/-- slices -/
def slM (x : D) (lo hi : Option Int) : MP D := ⟨fun m K _ => rSl3 (m.der x) lo hi m K, fun {m K K' X X'} h _ q => by
  generalize Mem.der m x = y at *
  cases y <;> first | exact h _ _ q | exact ⟨q.1, h _ _ q.2⟩ | exact q⟩
variable {tl th : TO3} {l u : MP (Option Int)}
def revM (d : D) : MP D := ⟨fun m K _ => ∃ ds, m.der d = .lst ds ∧ K (.lst ds.reverse) m, fun h _ ⟨i, e, q⟩ => ⟨i, e, h _ _ q⟩⟩
theorem revM_lst (ds : List D) : revM (.lst ds) = pure (.lst ds.reverse) := MP.ext fun m K X => ⟨fun ⟨c, e, q⟩ => by cases e; exact q, fun q => ⟨ds, rfl, q⟩⟩
def tupM (ds : List D) : MP D := MP.chk (fun _ => ds.length ≤ sizeLine) >>= fun _ => pure (.tup ds)
theorem tupM_ok {ds : List D} (h : ds.length ≤ sizeLine) : tupM ds = pure (.tup ds) := by unfold tupM; rw [chk_iff h]; rfl
theorem ev_tup (h : Ev1 ts σ xs) : Ev1 (dTup ts) σ (xs >>= tupM) := fun m Q q => h.go q fun d _ q => q
def lstM (ds : List D) : MP O := MP.chk (fun _ => ds.length ≤ sizeLine) >>= fun _ => pure (.lst ds)
theorem lstM_ok {ds : List D} (h : ds.length ≤ sizeLine) : lstM ds = pure (.lst ds) := by unfold lstM; rw [chk_iff h]; rfl
theorem ev_lst (h : Ev1 ts σ xs) : Ev1 (nLst ts) σ (xs >>= lstM) := fun m Q q => h.go q fun d _ q => q
theorem ev_dk0 : Ev1 nDk0 σ (pure (.dk [] [])) := fun m Q q => q
def eNM (x : MP O) : MP D := x >>= fun o => pure o.toD
theorem ev_eN (h : Ev1 tn σ xn) : Ev1 (eN tn) σ (eNM xn) := fun m Q q => h.go q fun d _ q => q
theorem ev_cb {r : RC3} [MoC r] (h : Ev1 ts σ xs) : Ev1 (dCB r ts) σ (xs >>= cbM r) := fun m Q q => h.go q fun _ _ q => q
def isStr (d : D) : MP Unit := MP.chk fun _ => ∃ a, d = .str a
theorem isStr_str (a : Str) : isStr (.str a) = pure () := chk_yes fun _ => ⟨a, rfl⟩
def isDict (d : D) : MP Unit := MP.chk fun m => (m.der d).keysD.isSome = true
def isLst (d : D) : MP Unit := MP.chk fun _ => ∃ xs, d = .lst xs
theorem isLst_lst (ds : List D) : isLst (.lst ds) = pure () := chk_yes fun _ => ⟨ds, rfl⟩
def disp1M (y x : D) : MP O := ⟨fun m K _ => ∃ k, y.key = some k ∧ K (.dk [k] [x]) m, fun h _ ⟨a, b, q⟩ => ⟨a, b, h _ _ q⟩⟩
theorem ev_disp1 (ha : Ev1 ta σ x) (hb : Ev1 tb σ y) : Ev1 (nDisp1 ta tb) σ (ap2 x y disp1M) := fun m Q q => ha.go q fun _ _ q => hb.go q fun _ _ q => q
def boxM (o : O) : MP D := ⟨fun m K _ => ∃ a j k, o = .lst [.int a, .int j, .int k] ∧ BoxOk a j k m.n ∧ K .box m, fun h _ ⟨a, b, c, d, e, q⟩ => ⟨a, b, c, d, e, h _ _ q⟩⟩
theorem ev_box (h : Ev1 tn σ xn) : Ev1 (dBox tn) σ (xn >>= boxM) := fun m Q q => h.go q fun _ _ q => q
def boxIxM (i : Nat) (d : D) : MP D := ⟨fun m K _ => d = .box ∧ ∀ a j k, BoxOk a j k m.n → K (.int ([a, j, k].getD i 0)) m, fun h _ ⟨a, q⟩ => ⟨a, fun b c d e => h _ _ (q b c d e)⟩⟩
theorem ev_boxIx {i : Nat} (h : Ev1 te σ x) : Ev1 (dBoxIx i te) σ (x >>= boxIxM i) := fun m Q q => h.go q fun _ _ q => q
def sp1 (f : D → MP D) : Sp3 := fun ds n Q Y => ∃ a, ds = [a] ∧ (f a).run n Q Y
def sp2 (f : D → D → MP D) : Sp3 := fun ds n Q Y => ∃ a b, ds = [a, b] ∧ (f a b).run n Q Y
abbrev Fds := List Str × List D
/-- a call: its arguments first -/
theorem ev_call {sp : Sp3} {dds : List D} {f : List D → MP D} (hs : Ev1 ts σ xs) (h : ∀ ds n Q Y, (f ds).run n Q Y → sp (ds ++ dds) n Q Y) : Ev1 (dCall sp dds ts) σ (xs >>= f) := fun m Q q => hs.go q fun ds _ q => h ds _ _ _ q
/-- a new cell -/
def celM (o : O) : MP D := ⟨fun m K _ => K (.cel m.cs.length) (m.cadd o), fun h _ q => h _ _ q⟩
theorem ev_cel (h : Ev1 tn σ xn) : Ev1 (dCel tn) σ (xn >>= celM) := fun m Q q => h.go q fun _ _ q => q
end
end L3
set_option Elab.async false
set_option linter.all false
set_option maxRecDepth 100000
set_option maxHeartbeats 1000000
namespace L3
open PySem PySem.Spec PyProof.Rows L2
section
variable [XCt] {R : Type} {K : R → Mem → Prop} {X : X3} {E : Ends3} {σ : St3}
/-- exceptions go where they are wished -/
def XLe (X : X3) (σ : St3) : Prop := ∀ e m', X e m' → XCt.xc e σ m'
/-- a statement and what follows it -/
structure EvS (K : R → Mem → Prop) (X : X3) (t : TS3) (E : Ends3) (σ : St3) (x : MP R) : Prop where
  go : ∀ m, x.run m K X → t E σ m
structure NxS (K : R → Mem → Prop) (X : X3) (N : St3 → Mem → Prop) (σ : St3) (x : MP R) : Prop where
  go : ∀ m, x.run m K X → N σ m
theorem nx_of {t : TS3} {E : Ends3} {σ : St3} {x : MP R} {K : R → Mem → Prop} {X : X3} (h : EvS K X t E σ x) : NxS K X (t E) σ x := ⟨h.go⟩
theorem ex_at {t : TS3} {E : Ends3} {σ : St3} {x : MP R} {K : R → Mem → Prop} {X : X3} {m : Mem} (h : EvS K X t E σ x) (q : x.run m K X) : t E σ m := h.go m q
theorem Ev1.st {α : Type} {t : TX α} {x : MP α} {k : α → MP R} (h : Ev1 t σ x) (hx : XLe X σ) {Q : α → Mem → Prop} (hk : ∀ a m, (k a).run m K X → Q a m) (m : Mem) (q : (x >>= k).run m K X) : t σ m Q :=
  h m Q (x.mono (fun a m' q => hk a m' q) (fun e m' q => hx e m' q) q)
variable {te ti tv ty : TE3} {tt : TT3} {tn : TN3} {t u : TS3} {x y z : MP D} {xn : MP O} {c : MP Bool} {k : D → MP R} {ko : O → MP R} {r r' : MP R} {g : TG3} {i : Nat}
theorem s_next {nx bk ct : St3 → Mem → Prop} {rt : K3} {ro : O → Mem → Prop} (h : NxS K X nx σ r) : EvS K X dNext ⟨nx, rt, bk, ct, ro⟩ σ r := ⟨h.go⟩
theorem s_set (hx : XLe X σ) (h : Ev1 te σ x) (hk : ∀ d, EvS K X u E (σ.set i (some (S3.dat d))) (k d)) : EvS K X (dSeq (dSet te (gNm i)) u) E σ (x >>= k) := ⟨h.st hx fun d => (hk d).go⟩
theorem s_ret {f : D → R} (hx : XLe X σ) (hr : ∀ d m, K (f d) m → E.rt d m) (h : Ev1 te σ x) : EvS K X (dSeq (dRet te) u) E σ (x >>= fun d => pure (f d)) := ⟨h.st hx fun d m q => hr d m q⟩
theorem s_ret0 {K : D → Mem → Prop} (hx : XLe X σ) (hr : ∀ d m, K d m → E.rt d m) (h : Ev1 te σ x) : EvS K X (dSeq (dRet te) u) E σ x := ⟨fun m q => h m _ (x.mono (fun d m' q => hr d m' q) (fun e m' q => hx e m' q) q)⟩
theorem s_if {t1 t2 : TS3} (hx : XLe X σ) (h : Ev1 tt σ c) (h1 : EvS K X t1 { nx := u E, rt := E.rt, bk := E.bk, ct := E.ct, ro := E.ro } σ r) (h2 : EvS K X t2 { nx := u E, rt := E.rt, bk := E.bk, ct := E.ct, ro := E.ro } σ r') : EvS K X (dSeq (dIf tt t1 t2) u) E σ (c >>= fun b => if b = true then r else r') := ⟨h.st hx fun b m q => by
  cases b with
  | true => exact h1.go m q
  | false => exact h2.go m q⟩
/-- what follows has a name -/
theorem s_jn {S : Type} {j : S → MP R} {body : (S → MP R) → MP R} (sh : S → St3 → Prop) (hj : ∀ s σ', sh s σ' → EvS K X u E σ' (j s)) (hb : ∀ j' : S → MP R, (∀ s σ', sh s σ' → NxS K X (u E) σ' (j' s)) → EvS K X (dSeq t u) E σ (body j')) : EvS K X (dSeq t u) E σ (Jn j body) := hb j fun s σ' h => nx_of (hj s σ' h)
def frzM {R : Type} (o : O) (k : D → MP R) : MP R := k o.toD
def augM (f : Int → Int → Int) (v : D) (x : MP D) : MP D := asI v >>= fun a => x >>= fun d => asI d >>= fun b => pure (.int (f a b))
theorem augM_pp (f : Int → Int → Int) (a b : Int) : augM f (.int a) (pure (.int b)) = pure (.int (f a b)) := by unfold augM; rw [asI_int]; show asI (.int b) >>= _ = _; rw [asI_int]; rfl
/-- lists of one's own -/
def asL (o : O) : MP (List D) := ⟨fun m K _ => ∃ ds, o = .lst ds ∧ K ds m, fun h _ ⟨b, e, q⟩ => ⟨b, e, h _ _ q⟩⟩
theorem asL_lst (ds : List D) : asL (.lst ds) = pure ds := MP.ext fun m K X => ⟨fun ⟨c, e, q⟩ => by cases e; exact q, fun q => ⟨_, rfl, q⟩⟩
def isL (o : O) : MP Unit := MP.chk fun _ => ∃ ds, o = .lst ds
theorem isL_lst (ds : List D) : isL (.lst ds) = pure () := chk_yes fun _ => ⟨ds, rfl⟩
def boxSetM (i : Nat) (d : D) : MP Unit := ⟨fun m K _ => ∃ (x : Int) (n2 : Nat), d = .int x ∧ m.n ≤ n2 ∧ (∀ a j k, BoxOk a j k m.n → BoxOk (if i = 0 then x else a) (if i = 1 then x else j) (if i = 2 then x else k) n2) ∧ K () (m.up n2), fun h _ ⟨a, b, c, d, e, q⟩ => ⟨a, b, c, d, e, h _ _ q⟩⟩
def isBox (d : D) : MP Unit := MP.chk fun _ => d = .box
theorem s_boxSet {p : Nat} {v : D} (hx : XLe X σ) (hp : σ[p]? = some (some (S3.dat v))) (hv : Ev1 tv σ x) (hk : EvS K X u E σ r) : EvS K X (dSeq (dBoxSet p i tv) u) E σ (isBox v >>= fun _ => x >>= fun d => boxSetM i d >>= fun _ => r) := ⟨fun m ⟨eb, q⟩ => by
  have eb : v = .box := eb
  subst eb
  exact hv m _ (x.mono (fun d m' ⟨a, n2, e1, h1, h2, q⟩ => ⟨a, n2, e1, hp, h1, h2, hk.go _ q⟩) (fun e m' q => hx e m' q) q)⟩
theorem s_raise {C : Addr} {f : Str} (hx : XLe X σ) (h : Ev1 te σ x) : EvS K X (dSeq (dRaise C f te) u) E σ (x >>= fun d => (MP.raise ⟨C, [f], [d]⟩ : MP R)) := ⟨fun m q => h m _ (x.mono (fun d m' q => hx _ m' q) (fun e m' q => hx e m' q) q)⟩
def unp1 (d : D) (k : D → MP R) : MP R := ⟨fun m K X => ∃ a, d = .tup [a] ∧ (k a).run m K X, fun h h' ⟨a, e, q⟩ => ⟨a, e, (k a).mono h h' q⟩⟩
def unp2 (d : D) (k : D → D → MP R) : MP R := ⟨fun m K X => ∃ a b, d = .tup [a, b] ∧ (k a b).run m K X, fun h h' ⟨a, b, e, q⟩ => ⟨a, b, e, (k a b).mono h h' q⟩⟩
def unp3 (d : D) (k : D → D → D → MP R) : MP R := ⟨fun m K X => ∃ a b c, d = .tup [a, b, c] ∧ (k a b c).run m K X, fun h h' ⟨a, b, c, e, q⟩ => ⟨a, b, c, e, (k a b c).mono h h' q⟩⟩
def unp4 (d : D) (k : D → D → D → D → MP R) : MP R := ⟨fun m K X => ∃ a b c e, d = .tup [a, b, c, e] ∧ (k a b c e).run m K X, fun h h' ⟨a, b, c, f, e, q⟩ => ⟨a, b, c, f, e, (k a b c f).mono h h' q⟩⟩
omit [XCt] in
theorem unp1_ok {a : D} {k : D → MP R} : unp1 (.tup [a]) k = k a := MP.ext fun m K X => ⟨fun ⟨a, e, q⟩ => by cases e; exact q, fun q => ⟨_, rfl, q⟩⟩
omit [XCt] in
theorem unp2_ok {a b : D} {k : D → D → MP R} : unp2 (.tup [a, b]) k = k a b := MP.ext fun m K X => ⟨fun ⟨a, b, e, q⟩ => by cases e; exact q, fun q => ⟨_, _, rfl, q⟩⟩
omit [XCt] in
theorem unp3_ok {a b c : D} {k : D → D → D → MP R} : unp3 (.tup [a, b, c]) k = k a b c := MP.ext fun m K X => ⟨fun ⟨a, b, c, e, q⟩ => by cases e; exact q, fun q => ⟨_, _, _, rfl, q⟩⟩
omit [XCt] in
theorem unp4_ok {a b c d : D} {k : D → D → D → D → MP R} : unp4 (.tup [a, b, c, d]) k = k a b c d := MP.ext fun m K X => ⟨fun ⟨a, b, c, f, e, q⟩ => by cases e; exact q, fun q => ⟨_, _, _, _, rfl, q⟩⟩
end
structure It5 where
  items : List D
  P : Mem → Prop
section
variable [XCt]
def EvI (wi : TI3) (σ : St3) (x : MP It5) : Prop := ∀ m (Q : List D → (Mem → Prop) → Mem → Prop), x.run m (fun it m' => Q it.items it.P m') (fun e m' => XCt.xc e σ m') → wi σ m Q
variable {σ : St3} {te tu : TE3} {x y : MP D}
def itSeq (d : D) : MP It5 := ⟨fun m K _ => ∃ ds, m.der d = .lst ds ∧ K ⟨ds, fun m => m.der d = .lst ds⟩ m, fun h _ ⟨a, b, q⟩ => ⟨a, b, h _ _ q⟩⟩
def itTup (d : D) : MP It5 := ⟨fun m K _ => ∃ ds, d = .tup ds ∧ K ⟨ds, fun _ => True⟩ m, fun h _ ⟨a, b, q⟩ => ⟨a, b, h _ _ q⟩⟩
def itStr (d : D) : MP It5 := ⟨fun m K _ => ∃ z, d = .str z ∧ K ⟨signsD z, fun _ => True⟩ m, fun h _ ⟨a, b, q⟩ => ⟨a, b, h _ _ q⟩⟩
def itRange (d : D) : MP It5 := ⟨fun m K _ => ∃ j, d = .int j ∧ -(2 ^ 62) ≤ j ∧ j < 2 ^ 62 ∧ K ⟨rangeD 0 j.toNat, fun _ => True⟩ m, fun h _ ⟨a, b, c, d, q⟩ => ⟨a, b, c, d, h _ _ q⟩⟩
def itEnum (d : D) : MP It5 := ⟨fun m K _ => ∃ ds, m.der d = .lst ds ∧ K ⟨enumD ds, fun m => m.der d = .lst ds⟩ m, fun h _ ⟨a, b, q⟩ => ⟨a, b, h _ _ q⟩⟩
def itZip (d d2 : D) : MP It5 := ⟨fun m K _ => ∃ ds es, m.der d = .lst ds ∧ m.der d2 = .lst es ∧ K ⟨zipD ds es, fun m => m.der d = .lst ds ∧ m.der d2 = .lst es⟩ m, fun h _ ⟨a, b, c, d, q⟩ => ⟨a, b, c, d, h _ _ q⟩⟩
def itRev (d : D) : MP It5 := ⟨fun m K _ => ∃ ds, m.der d = .lst ds ∧ K ⟨ds.reverse, fun m => m.der d = .lst ds⟩ m, fun h _ ⟨a, b, q⟩ => ⟨a, b, h _ _ q⟩⟩
def itSeqD (d : D) : MP It5 := ⟨fun m K _ => ∃ ds, (m.der d = .lst ds ∨ m.der d = .tup ds) ∧ K ⟨ds, fun m' => m'.der d = m.der d⟩ m, fun h _ ⟨a, b, q⟩ => ⟨a, b, h _ _ q⟩⟩
def itEnumS (d : D) : MP It5 := ⟨fun m K _ => ∃ ds, (m.der d = .lst ds ∨ m.der d = .tup ds) ∧ K ⟨enumD ds, fun m' => m'.der d = m.der d⟩ m, fun h _ ⟨a, b, q⟩ => ⟨a, b, h _ _ q⟩⟩
theorem EvI.of1 {wi : TI3} {f : D → MP It5} (h : Ev1 te σ x) (hw : ∀ m (Q : List D → (Mem → Prop) → Mem → Prop) X, te σ m (fun d m1 => (f d).run m1 (fun it m' => Q it.items it.P m') X) → wi σ m Q) : EvI wi σ (x >>= f) := fun m Q q => hw m Q _ (h m _ q)
theorem ei_seq (h : Ev1 te σ x) : EvI (iSeq te) σ (x >>= itSeq) := .of1 h fun _ _ _ q => q
theorem ei_range (h : Ev1 te σ x) : EvI (iRange1 te) σ (x >>= itRange) := .of1 h fun _ _ _ q => q
theorem ei_enum (h : Ev1 te σ x) : EvI (iEnumD te) σ (x >>= itEnum) := .of1 h fun _ _ _ q => q
end
theorem it5_ext {i : List D} {P P' : Mem → Prop} (h : ∀ m, P m ↔ P' m) : (⟨i, P⟩ : It5) = ⟨i, P'⟩ := by
  have : P = P' := funext fun m => propext (h m)
  rw [this]
theorem itSeq_lst (ds : List D) : itSeq (.lst ds) = pure ⟨ds, fun _ => True⟩ := MP.ext fun m K X => by
  have e : (⟨ds, fun m => m.der (.lst ds) = .lst ds⟩ : It5) = ⟨ds, fun _ => True⟩ := it5_ext fun m => ⟨fun _ => trivial, fun _ => rfl⟩
  refine ⟨fun ⟨a, b, q⟩ => ?_, fun q => ⟨ds, rfl, ?_⟩⟩
  · cases b; rw [e] at q; exact q
  · rw [e]; exact q
theorem itRev_lst (ds : List D) : itRev (.lst ds) = pure ⟨ds.reverse, fun _ => True⟩ := MP.ext fun m K X => by
  have e : (⟨ds.reverse, fun m => m.der (.lst ds) = .lst ds⟩ : It5) = ⟨ds.reverse, fun _ => True⟩ := it5_ext fun m => ⟨fun _ => trivial, fun _ => rfl⟩
  refine ⟨fun ⟨a, b, q⟩ => ?_, fun q => ⟨ds, rfl, ?_⟩⟩
  · cases b; rw [e] at q; exact q
  · rw [e]; exact q
theorem itEnum_lst (ds : List D) : itEnum (.lst ds) = pure ⟨enumD ds, fun _ => True⟩ := MP.ext fun m K X => by
  have e : (⟨enumD ds, fun m => m.der (.lst ds) = .lst ds⟩ : It5) = ⟨enumD ds, fun _ => True⟩ := it5_ext fun m => ⟨fun _ => trivial, fun _ => rfl⟩
  refine ⟨fun ⟨a, b, q⟩ => ?_, fun q => ⟨ds, rfl, ?_⟩⟩
  · cases b; rw [e] at q; exact q
  · rw [e]; exact q
theorem itZip_lst (ds es : List D) : itZip (.lst ds) (.lst es) = pure ⟨zipD ds es, fun _ => True⟩ := MP.ext fun m K X => by
  have e : (⟨zipD ds es, fun m => m.der (.lst ds) = .lst ds ∧ m.der (.lst es) = .lst es⟩ : It5) = ⟨zipD ds es, fun _ => True⟩ := it5_ext fun m => ⟨fun _ => trivial, fun _ => ⟨rfl, rfl⟩⟩
  refine ⟨fun ⟨a, b, c, d, q⟩ => ?_, fun q => ⟨ds, es, rfl, rfl, ?_⟩⟩
  · cases c; cases d; rw [e] at q; exact q
  · rw [e]; exact q
theorem itSeqD_lst (ds : List D) : itSeqD (.lst ds) = pure ⟨ds, fun _ => True⟩ := MP.ext fun m K X => by
  have e : (⟨ds, fun m' => m'.der (.lst ds) = m.der (.lst ds)⟩ : It5) = ⟨ds, fun _ => True⟩ := it5_ext fun m => ⟨fun _ => trivial, fun _ => rfl⟩
  refine ⟨fun ⟨a, b, q⟩ => ?_, fun q => ⟨ds, .inl rfl, ?_⟩⟩
  · rcases b with b | b
    · cases b; rw [e] at q; exact q
    · cases b
  · rw [e]; exact q
theorem itSeqD_tup (ds : List D) : itSeqD (.tup ds) = pure ⟨ds, fun _ => True⟩ := MP.ext fun m K X => by
  have e : (⟨ds, fun m' => m'.der (.tup ds) = m.der (.tup ds)⟩ : It5) = ⟨ds, fun _ => True⟩ := it5_ext fun m => ⟨fun _ => trivial, fun _ => rfl⟩
  refine ⟨fun ⟨a, b, q⟩ => ?_, fun q => ⟨ds, .inr rfl, ?_⟩⟩
  · rcases b with b | b
    · cases b
    · cases b; rw [e] at q; exact q
  · rw [e]; exact q
theorem itEnumS_lst (ds : List D) : itEnumS (.lst ds) = pure ⟨enumD ds, fun _ => True⟩ := MP.ext fun m K X => by
  have e : (⟨enumD ds, fun m' => m'.der (.lst ds) = m.der (.lst ds)⟩ : It5) = ⟨enumD ds, fun _ => True⟩ := it5_ext fun m => ⟨fun _ => trivial, fun _ => rfl⟩
  refine ⟨fun ⟨a, b, q⟩ => ?_, fun q => ⟨ds, .inl rfl, ?_⟩⟩
  · rcases b with b | b
    · cases b; rw [e] at q; exact q
    · cases b
  · rw [e]; exact q
theorem itEnumS_tup (ds : List D) : itEnumS (.tup ds) = pure ⟨enumD ds, fun _ => True⟩ := MP.ext fun m K X => by
  have e : (⟨enumD ds, fun m' => m'.der (.tup ds) = m.der (.tup ds)⟩ : It5) = ⟨enumD ds, fun _ => True⟩ := it5_ext fun m => ⟨fun _ => trivial, fun _ => rfl⟩
  refine ⟨fun ⟨a, b, q⟩ => ?_, fun q => ⟨ds, .inr rfl, ?_⟩⟩
  · rcases b with b | b
    · cases b
    · cases b; rw [e] at q; exact q
  · rw [e]; exact q
theorem itTup_tup (ds : List D) : itTup (.tup ds) = pure ⟨ds, fun _ => True⟩ := MP.ext fun m K X => ⟨fun ⟨a, b, q⟩ => by cases b; exact q, fun q => ⟨ds, rfl, q⟩⟩
theorem itStr_str (z : Str) : itStr (.str z) = pure ⟨signsD z, fun _ => True⟩ := MP.ext fun m K X => ⟨fun ⟨a, b, q⟩ => by cases b; exact q, fun q => ⟨z, rfl, q⟩⟩
theorem itRange_int {j : Int} (h1 : -(2 ^ 62) ≤ j) (h2 : j < 2 ^ 62) : itRange (.int j) = pure ⟨rangeD 0 j.toNat, fun _ => True⟩ := MP.ext fun m K X => ⟨fun ⟨a, b, c, d, q⟩ => by cases b; exact q, fun q => ⟨j, rfl, h1, h2, q⟩⟩
theorem itRange_nat {j : Nat} (h2 : j < 2 ^ 62) : itRange (.int j) = pure ⟨rangeD 0 j, fun _ => True⟩ := itRange_int (j := j) (by omega) (by omega)
/-- for: the items, what the turns hand on; a turn tells how it goes on -/
def forK {R S : Type} (P : Mem → Prop) (b : D → S → (S → MP R) → MP R) (j : S → MP R) : List D → S → MP R
  | [], s => MP.chk P >>= fun _ => j s
  | d :: ds, s => MP.chk P >>= fun _ => b d s (forK P b j ds)
/-- the same, nothing to look at -/
def forP {R S : Type} (b : D → S → (S → MP R) → MP R) (j : S → MP R) : List D → S → MP R
  | [], s => j s
  | d :: ds, s => b d s (forP b j ds)
theorem forK_true {R S : Type} {b : D → S → (S → MP R) → MP R} {j : S → MP R} : ∀ ds : List D, forK (fun _ => True) b j ds = forP b j ds
  | [] => by funext s; unfold forK forP; rw [chk_true]; rfl
  | d :: ds => by
    funext s
    unfold forK forP
    rw [chk_true, forK_true ds]; rfl
theorem forP_nil {R S : Type} {b : D → S → (S → MP R) → MP R} {j : S → MP R} {s : S} : forP b j [] s = j s := rfl
theorem forP_cons {R S : Type} {b : D → S → (S → MP R) → MP R} {j : S → MP R} {d : D} {ds : List D} {s : S} : forP b j (d :: ds) s = b d s (forP b j ds) := rfl
section
variable [XCt] {R S : Type} {K : R → Mem → Prop} {X : X3} {E : Ends3} {σ : St3} {wi : TI3} {g : TG3} {tb : TS3} {tc : TT3} {xi : MP It5} {b : D → S → (S → MP R) → MP R} {bw : S → (S → MP R) → MP R} {cw : S → MP Bool} {j : S → MP R} {s0 : S}
theorem s_forG {u : TS3} (sh : S → St3 → Prop) (hx : XLe X σ) (hi : EvI wi σ xi) (h0 : sh s0 σ) (hj : ∀ s σ', sh s σ' → NxS K X (u E) σ' (j s))
    (hb : ∀ (d : D) (s : S) (σ' : St3) (n : S → MP R) (N : St3 → Mem → Prop), sh s σ' → (∀ s2 σ2, sh s2 σ2 → NxS K X N σ2 (n s2)) → ∀ m, (b d s n).run m K X → g d σ' m (tb { nx := N, rt := E.rt, bk := u E, ct := N, ro := E.ro })) :
    EvS K X (dSeq (dFor wi g tb) u) E σ (xi >>= fun it => forK it.P b j it.items s0) := ⟨fun m q => by
  refine hi m _ (xi.mono (K' := fun it m' => _) (fun it m' q => ?_) (fun e m' q => hx e m' q) q)
  refine ⟨fun i σ' m' => ∃ s, sh s σ' ∧ (forK it.P b j (it.items.drop i) s).run m' K X, ⟨s0, h0, q⟩, fun i d σ' m' e ⟨s, hs, q⟩ => ?_, fun σ' m' ⟨s, hs, q⟩ => ?_⟩
  · have el : it.items.drop i = d :: it.items.drop (i + 1) := by
      obtain ⟨hl, ed⟩ := List.getElem?_eq_some_iff.mp e
      rw [List.drop_eq_getElem_cons hl, ed]
    rw [el] at q
    obtain ⟨p, q⟩ := q
    exact ⟨p, hb d s σ' (forK it.P b j (it.items.drop (i + 1))) _ hs (fun s2 σ2 h2 => ⟨fun m2 q2 => ⟨s2, h2, q2⟩⟩) m' q⟩
  · rw [List.drop_length] at q
    obtain ⟨p, q⟩ := q
    exact ⟨p, (hj s σ' hs).go m' q⟩⟩
theorem s_for {u : TS3} {i : Nat} (sh : S → St3 → Prop) (hx : XLe X σ) (hi : EvI wi σ xi) (h0 : sh s0 σ) (hj : ∀ s σ', sh s σ' → NxS K X (u E) σ' (j s))
    (hb : ∀ (d : D) (s : S) (σ' : St3) (n : S → MP R) (N : St3 → Mem → Prop), sh s σ' → (∀ s2 σ2, sh s2 σ2 → NxS K X N σ2 (n s2)) → EvS K X tb { nx := N, rt := E.rt, bk := u E, ct := N, ro := E.ro } (σ'.set i (some (S3.dat d))) (b d s n)) :
    EvS K X (dSeq (dFor wi (gNm i) tb) u) E σ (xi >>= fun it => forK it.P b j it.items s0) := s_forG sh hx hi h0 hj fun d s σ' n N hs hn => (hb d s σ' n N hs hn).go
end
def lcK (P : Mem → Prop) (b : D → MP (Option D)) : List D → List D → MP (List D)
  | [], acc => MP.chk P >>= fun _ => pure acc
  | d :: ds, acc => MP.chk P >>= fun _ => (b d).noX >>= fun o => match o with
    | some y => MP.chk (fun _ => acc.length < sizeLine) >>= fun _ => lcK P b ds (acc ++ [y])
    | none => lcK P b ds acc
/-- an item: whether it is taken, and what it becomes -/
def lcB (c : MP Bool) (x : MP D) : MP (Option D) := c >>= fun t => if t = true then x >>= fun y => pure (some y) else pure none
def lcM (xi : MP It5) (b : D → MP (Option D)) : MP O := xi >>= fun it => lcK it.P b it.items [] >>= fun ds => pure (.lst ds)
section
variable [XCt] {σ : St3} {wi : TI3} {g : TG3} {tt : TT3} {te tk tv : TE3} {xi : MP It5} {b : D → MP (Option D)} {vs : List Nat}
theorem ev_lc (hi : EvI wi σ xi) (hb : ∀ d m (Q2 : Option D → Mem → Prop), (b d).run m Q2 (fun _ _ => False) → g d (wipe3 σ vs) m fun σ2 n2 => tt σ2 n2 fun t n3 => if t = true then te σ2 n3 fun y n4 => Q2 (some y) n4 else Q2 none n3) :
    Ev1 (nLc wi g tt te vs) σ (lcM xi b) := fun m Q q => by
  refine hi m _ (xi.mono (K' := fun it m' => _) (fun it m' q => ?_) (fun _ _ z => z) q)
  refine ⟨fun i acc m' => (lcK it.P b (it.items.drop i) acc).run m' (fun ds m2 => Q (.lst ds) m2) (fun e m' => XCt.xc e σ m'), q, fun i d acc m' e q => ?_, fun acc m' q => ?_⟩
  · have el : it.items.drop i = d :: it.items.drop (i + 1) := by
      obtain ⟨hl, ed⟩ := List.getElem?_eq_some_iff.mp e
      rw [List.drop_eq_getElem_cons hl, ed]
    dsimp only at q
    rw [el] at q
    obtain ⟨p, q⟩ := q
    refine ⟨p, hb d m' (fun o m2 => match o with
      | some y => acc.length < sizeLine ∧ (lcK it.P b (it.items.drop (i + 1)) (acc ++ [y])).run m2 (fun ds m2 => Q (.lst ds) m2) (fun e m' => XCt.xc e σ m')
      | none => (lcK it.P b (it.items.drop (i + 1)) acc).run m2 (fun ds m2 => Q (.lst ds) m2) (fun e m' => XCt.xc e σ m')) ((b d).mono (fun o m2 q => ?_) (fun _ _ z => z) q)⟩
    cases o with
    | some y => exact q
    | none => exact q
  · dsimp only at q
    rw [List.drop_length] at q
    exact q
def dcB (c : MP Bool) (x y : MP D) : MP (Option (D × D)) := c >>= fun t => if t = true then x >>= fun k => y >>= fun v => pure (some (k, v)) else pure none
end
end L3
set_option Elab.async false
set_option linter.all false
set_option maxRecDepth 100000
set_option maxHeartbeats 1000000
namespace L3
open PySem PySem.Spec PyProof.Rows L2
section
variable {R : Type}
def cl0 (f : MP R) : List D → MP R | [] => f | _ => MP.bad
def cl1 (f : D → MP R) : List D → MP R | [a] => f a | _ => MP.bad
def cl2 (f : D → D → MP R) : List D → MP R | [a, b] => f a b | _ => MP.bad
def cl3 (f : D → D → D → MP R) : List D → MP R | [a, b, c] => f a b c | _ => MP.bad
def cl4 (f : D → D → D → D → MP R) : List D → MP R | [a, b, c, d] => f a b c d | _ => MP.bad
def cl5 (f : D → D → D → D → D → MP R) : List D → MP R | [a, b, c, d, e] => f a b c d e | _ => MP.bad
def cl6 (f : D → D → D → D → D → D → MP R) : List D → MP R | [a, b, c, d, e, g] => f a b c d e g | _ => MP.bad
def cl7 (f : D → D → D → D → D → D → D → MP R) : List D → MP R | [a, b, c, d, e, g, h] => f a b c d e g h | _ => MP.bad
variable {m : Mem} {Q : R → Mem → Prop} {Y : X3}
theorem cl1_inv {f : D → MP R} : ∀ {ds : List D}, (cl1 f ds).run m Q Y → ∃ a, ds = [a] ∧ (f a).run m Q Y
  | [a], h => ⟨a, rfl, h⟩
  | [], h => h.elim
  | _ :: _ :: _, h => h.elim
theorem cl2_inv {f : D → D → MP R} : ∀ {ds : List D}, (cl2 f ds).run m Q Y → ∃ a b, ds = [a, b] ∧ (f a b).run m Q Y
  | [a, b], h => ⟨a, b, rfl, h⟩
  | [], h => h.elim
  | [_], h => h.elim
  | _ :: _ :: _ :: _, h => h.elim
end
/-- the end of an __init__ -/
def insE (C y : Addr) (o : O) : MP Fds := ⟨fun m K _ => ∃ ns fds, o = .ins C y ns fds ∧ K (ns, fds) m, fun h _ ⟨c, d, e, q⟩ => ⟨c, d, e, h _ _ q⟩⟩
theorem insE_ok {C y : Addr} {ns : List Str} {fds : List D} : insE C y (.ins C y ns fds) = pure (ns, fds) := MP.ext fun m K X => ⟨fun ⟨c, d, e, q⟩ => by cases e; exact q, fun q => ⟨_, _, rfl, q⟩⟩
theorem lcb_ok {tt : TT3} {te : TE3} {σ : St3} {c : MP Bool} {x : MP D} (hc : @Ev1 XCt.dead _ tt σ c) (hx : @Ev1 XCt.dead _ te σ x) {m : Mem} {Q2 : Option D → Mem → Prop} (q : (lcB c x).run m Q2 (fun _ _ => False)) :
    tt σ m fun t n3 => if t = true then te σ n3 fun y n4 => Q2 (some y) n4 else Q2 none n3 :=
  letI := XCt.dead; hc.go (Q := Q2) q fun t m2 q => by
    cases t with
    | true => exact hx.go (Q := Q2) q fun _ _ q => q
    | false => exact q
theorem ev_yes [XCt] {σ : St3} : Ev1 dYes σ (pure true) := fun _ _ q => q
inductive Ctl (S : Type) where
  | nx (s : S)
  | rt (d : D)
  | bk
  | ct
def tryM {R S : Type} (body : MP (Ctl S)) (h : Exn3 → MP (Ctl S)) (k : Ctl S → MP R) : MP R :=
  ⟨fun m K X => body.run m (fun c m' => (k c).run m' K X) (fun e m' => (h e >>= k).run m' K X), fun h1 h2 q => body.mono (fun c _ q => (k c).mono h1 h2 q) (fun e _ q => (h e >>= k).mono h1 h2 q) q⟩
theorem tryM_raise {R S : Type} (e : Exn3) (h : Exn3 → MP (Ctl S)) (k : Ctl S → MP R) : tryM (MP.raise e) h k = (h e >>= k) := rfl
/-- a clause -/
def hdM {R : Type} (m : Addr → Option Bool) (suite : Addr → Addr → Option Addr → D → MP R) (rest : Exn3 → MP R) (e : Exn3) : MP R :=
  ⟨fun n K X => ∃ b, m e.C = some b ∧ (b = true → (∀ a dx, (suite a e.C (some dx) (.exn a e.C dx e.ns e.ds)).run n K (fun _ _ => False)) ∧ (e.ns = [] → ∀ a, (suite a e.C none (.raw (.ref a))).run n K (fun _ _ => False))) ∧ (b = false → (rest e).run n K X),
   fun h1 h2 ⟨b, e1, q1, q2⟩ => ⟨b, e1, fun z => ⟨fun a dx => (suite _ _ _ _).mono h1 (fun _ _ z => z) ((q1 z).1 a dx), fun z2 a => (suite _ _ _ _).mono h1 (fun _ _ z => z) ((q1 z).2 z2 a)⟩, fun z => (rest e).mono h1 h2 (q2 z)⟩⟩
section
variable {R S : Type} {K : R → Mem → Prop} {X : X3} {E : Ends3} {σ : St3}
/-- the clauses wish this -/
def EvH (xo : Exn3 → St3 → Mem → Prop) (E : Ends3) (sx : St3 → Prop) (K : R → Mem → Prop) (X : X3) (l : HdL3) (h : Exn3 → MP R) : Prop := ∀ e σ m, sx σ → (h e).run m K X → hdX xo E l e σ m
theorem h_nil {xo : Exn3 → St3 → Mem → Prop} {sx : St3 → Prop} (hx : ∀ σ, sx σ → ∀ e m, X e m → xo e σ m) : EvH xo E sx K X [] (fun e => (MP.raise e : MP R)) := fun e σ m hs q => hx σ hs e m q
theorem h_cons {xo : Exn3 → St3 → Mem → Prop} {sx : St3 → Prop} {m : Addr → Option Bool} {o : Option Nat} {ts : Addr → Addr → Option Addr → TS3} {l : HdL3} {suite : Addr → Addr → Option Addr → D → MP R} {rest : Exn3 → MP R}
    (hs : ∀ (a C : Addr) (d : Option Addr) (x : D) (σ : St3), sx σ → EvS K (fun _ _ => False) (ts a C d) (gone3 E o) (put3 σ x o) (suite a C d x)) (hr : EvH xo E sx K X l rest) : EvH xo E sx K X ((m, o, ts) :: l) (hdM m suite rest) :=
  fun e σ n hx ⟨b, e1, q1, q2⟩ => ⟨b, e1, fun z => ⟨fun a dx => (hs _ _ _ _ σ hx).go n ((q1 z).1 a dx), fun z2 a => (hs _ _ _ _ σ hx).go n ((q1 z).2 z2 a)⟩, fun z => hr e σ n hx (q2 z)⟩
theorem s_try [xc : XCt] {t : XCt → TS3} {u : TS3} {l : HdL3} {body : MP (Ctl S)} {h : Exn3 → MP (Ctl S)} {k : Ctl S → MP R} (sx : St3 → Prop) (hh : EvH XCt.xc { nx := u E, rt := E.rt, bk := E.bk, ct := E.ct, ro := E.ro } sx (fun c m' => (k c).run m' K X) X l h)
    (hb : ∀ (xc2 : XCt), (∀ σ', sx σ' → @XLe xc2 (fun e m' => (h e).run m' (fun c m' => (k c).run m' K X) X) σ') → EvS (fun c m' => (k c).run m' K X) (fun e m' => (h e).run m' (fun c m' => (k c).run m' K X) X) (t xc2) { nx := u E, rt := E.rt, bk := E.bk, ct := E.ct, ro := E.ro } σ body) : EvS K X (dSeq (dTry t l) u) E σ (tryM body h k) := ⟨fun m q =>
  (hb ⟨hdX XCt.xc { nx := u E, rt := E.rt, bk := E.bk, ct := E.ct, ro := E.ro } l⟩ (fun σ' hs e m' q => hh e σ' m' hs q)).go m q⟩
end
end L3
set_option Elab.async false
set_option linter.all false
set_option maxRecDepth 100000
set_option maxHeartbeats 1000000
namespace L3
open PySem PySem.Spec PyProof.Rows L2
instance : MoC rSum3 := ⟨fun h ⟨d, a, q⟩ => ⟨d, a, h _ _ q⟩⟩
instance : MoC rInt3 := ⟨fun h q => q.elim (fun ⟨d, a, q⟩ => .inl ⟨d, a, h _ _ q⟩) fun ⟨d, a, q⟩ => .inr ⟨d, a, h _ _ q⟩⟩
instance : MoC rBool3 := ⟨fun h q => q.elim (fun ⟨d, a, q⟩ => .inl ⟨d, a, h _ _ q⟩) fun ⟨d, a, q⟩ => .inr ⟨d, a, h _ _ q⟩⟩
section
variable [XCt] {σ : St3} {ta tb te tf : TE3} {x y z : MP D} {tn : TN3} {xn : MP O} {ts tr : TA3} {xs ys : MP (List D)}
def revTM (d : D) : MP D := ⟨fun m K _ => ∃ ds, m.der d = .tup ds ∧ K (.tup ds.reverse) m, fun h _ ⟨i, e, q⟩ => ⟨i, e, h _ _ q⟩⟩
omit [XCt] in
theorem revTM_tup (ds : List D) : revTM (.tup ds) = pure (.tup ds.reverse) := MP.ext fun m K X => ⟨fun ⟨c, e, q⟩ => by cases e; exact q, fun q => ⟨ds, rfl, q⟩⟩
def optM (v : Option D) : MP D := ⟨fun m K _ => ∃ d, v = some d ∧ K d m, fun h _ ⟨d, e, q⟩ => ⟨d, e, h _ _ q⟩⟩
omit [XCt] in
theorem optM_some (d : D) : optM (some d) = pure d := MP.ext fun m K X => ⟨fun ⟨c, e, q⟩ => by cases e; exact q, fun q => ⟨d, rfl, q⟩⟩
end
section
variable [XCt] {R : Type} {K : R → Mem → Prop} {X : X3} {E : Ends3} {σ : St3} {u : TS3} {te : TE3} {tn tn' : TN3} {x : MP D} {xn xn' : MP O} {ko : O → MP R} {i j : Nat}
theorem s_set2DD {te' : TE3} {x' : MP D} {k2 : D → D → MP R} (hx : XLe X σ) (h : Ev1 te σ x) (h' : Ev1 te' σ x') (hk : ∀ d o, EvS K X u E ((σ.set i (some (S3.dat d))).set j (some (S3.dat o))) (k2 d o)) : EvS K X (dSeq (dSet2 (vD te) (vD te') i j) u) E σ (x >>= fun d => x' >>= fun o => k2 d o) :=
  ⟨fun m q => h m _ (x.mono (fun d m' q => h' m' _ (x'.mono (fun o m2 q => (hk d o).go m2 q) (fun e m' q => hx e m' q) q)) (fun e m' q => hx e m' q) q)⟩
def unp2L (d : D) (k : D → D → MP R) : MP R := ⟨fun m K X => ∃ a b, d = .lst [a, b] ∧ (k a b).run m K X, fun h h' ⟨a, b, e, q⟩ => ⟨a, b, e, (k a b).mono h h' q⟩⟩
omit [XCt] in
theorem unp2L_ok {a b : D} {k : D → D → MP R} : unp2L (.lst [a, b]) k = k a b := MP.ext fun m K X => ⟨fun ⟨a, b, e, q⟩ => by cases e; exact q, fun q => ⟨_, _, rfl, q⟩⟩
end
section
variable [XCt] {σ : St3} {te tu : TE3} {x y : MP D}
def itEz (d d2 : D) : MP It5 := ⟨fun m K _ => ∃ ds es, m.der d = .lst ds ∧ m.der d2 = .lst es ∧ K ⟨enumD (zipD ds es), fun m => m.der d = .lst ds ∧ m.der d2 = .lst es⟩ m, fun h _ ⟨a, b, c, d, q⟩ => ⟨a, b, c, d, h _ _ q⟩⟩
omit [XCt] in
theorem itEz_lst (ds es : List D) : itEz (.lst ds) (.lst es) = pure ⟨enumD (zipD ds es), fun _ => True⟩ := MP.ext fun m K X => by
  have e : (⟨enumD (zipD ds es), fun m => m.der (.lst ds) = .lst ds ∧ m.der (.lst es) = .lst es⟩ : It5) = ⟨enumD (zipD ds es), fun _ => True⟩ := it5_ext fun m => ⟨fun _ => trivial, fun _ => ⟨rfl, rfl⟩⟩
  refine ⟨fun ⟨a, b, c, d, q⟩ => ?_, fun q => ⟨ds, es, rfl, rfl, ?_⟩⟩
  · cases c; cases d; rw [e] at q; exact q
  · rw [e]; exact q
end
section
variable [XCt] {σ : St3} {te tu : TE3} {x y : MP D}
def itZipT (d d2 : D) : MP It5 := ⟨fun m K _ => ∃ ds es, d = .tup ds ∧ d2 = .tup es ∧ K ⟨zipD ds es, fun _ => True⟩ m, fun h _ ⟨a, b, c, d, q⟩ => ⟨a, b, c, d, h _ _ q⟩⟩
omit [XCt] in
theorem itZipT_tup (ds es : List D) : itZipT (.tup ds) (.tup es) = pure ⟨zipD ds es, fun _ => True⟩ := MP.ext fun m K X => ⟨fun ⟨a, b, c, d, q⟩ => by cases c; cases d; exact q, fun q => ⟨ds, es, rfl, rfl, q⟩⟩
end
end L3
set_option Elab.async false
set_option linter.all false
set_option maxRecDepth 100000
set_option maxHeartbeats 1000000
namespace W
open PySem PySem.Spec PyProof.Rows L2 L3 He
def Cs_ (K : PySem.W.Frag) : List Addr := []
end W
set_option Elab.async false
set_option linter.all false
set_option maxRecDepth 100000
set_option maxHeartbeats 1000000
namespace L3
open PySem PySem.Spec PyProof.Rows L2
theorem mp_iff {α : Type} {p : Prop} {x : MP α} {a : α} (h : p) (e : ∀ m K X, x.run m K X ↔ (p ∧ K a m)) : x = pure a := MP.ext fun m K X => (e m K X).trans ⟨fun q => q.2, fun q => ⟨h, q⟩⟩
theorem der_cmp {d : D} (h : d.cmp) (m : Mem) : m.der d = d := by
  cases d <;> first | rfl | (exact absurd h.1 (by unfold D.plain; exact Bool.false_ne_true))
section
variable {i j : Int} {a b : Str} {xs ys ds es : List D} {neg : Bool} {K : PySem.W.Frag}
theorem op_addI : opM (rDer rAdd3) (.int i) (.int j) = pure (.int (i + j)) := rfl
theorem op_addL (h : xs.length + ys.length ≤ sizeLine) : opM (rDer rAdd3) (.lst xs) (.lst ys) = pure (.lst (xs ++ ys)) := mp_iff h fun _ _ _ => Iff.rfl
theorem op_sub : opM (rDer rSub3) (.int i) (.int j) = pure (.int (i - j)) := rfl
theorem op_mul (h : CMul i j) : opM (rDer rMul3) (.int i) (.int j) = pure (.int (i * j)) := mp_iff h fun _ _ _ => Iff.rfl
theorem op_mod (h : 0 < j) : opM (rDer rMod3) (.int i) (.int j) = pure (.int (i % j)) := mp_iff h fun _ _ _ => Iff.rfl
theorem op_div (h : 0 < j ∧ j.natAbs < 2 ^ 128) : opM (rDer rDiv3) (.int i) (.int j) = pure (.int (i / j)) := mp_iff h fun _ _ _ => Iff.rfl
theorem op_pow (h : CPow i j) : opM (rDer rPow3) (.int i) (.int j) = pure (.int (i ^ j.toNat)) := mp_iff h fun _ _ _ => Iff.rfl
theorem op_cmp {p : Int → Int → Bool} : opM (rDer (rCmp3 p)) (.int i) (.int j) = pure (.bl (p i j)) := rfl
theorem op_eq {x y : D} (hx : x.cmp) (hy : y.cmp) : opM (rDer (rEqA3 neg)) x y = pure (.bl (if neg then !D.eqv x y else D.eqv x y)) := by
  have key : ∀ m K X, (opM (rDer (rEqA3 neg)) x y).run m K X ↔ ((x.cmp ∧ y.cmp) ∧ K (.bl (if neg then !D.eqv x y else D.eqv x y)) m) := fun m K X => by
    show rEqA3 neg (m.der x) (m.der y) m K ↔ _
    rw [der_cmp hx, der_cmp hy]
    have go : rEq3 neg x y m K ↔ ((x.cmp ∧ y.cmp) ∧ K (.bl (if neg then !D.eqv x y else D.eqv x y)) m) := ⟨fun ⟨a, b, q⟩ => ⟨⟨a, b⟩, q⟩, fun ⟨⟨a, b⟩, q⟩ => ⟨a, b, q⟩⟩
    cases x <;> first
      | exact go
      | (exact absurd hx.1 (by unfold D.plain; exact Bool.false_ne_true))
  exact mp_iff ⟨hx, hy⟩ key
theorem op_inS {c : Nat} : opM (rDer (rInA3 neg)) (.str ⟨#[c]⟩) (.str a) = pure (.bl (if neg then !decide (c ∈ a.cps.toList) else decide (c ∈ a.cps.toList))) := MP.ext fun m K X => ⟨fun ⟨k, e, q⟩ => by cases e; exact q, fun q => ⟨c, rfl, q⟩⟩
theorem op_inL {x : D} (hx : x.cmp) (h : (D.lst ds).cmp) : opM (rDer (rInA3 neg)) x (.lst ds) = pure (.bl (if neg then !ds.any (fun z => D.eqv z x) else ds.any (fun z => D.eqv z x))) := mp_iff (p := x.cmp ∧ (D.lst ds).cmp) ⟨hx, h⟩ fun m K X => by
  show rInA3 neg (m.der x) (.lst ds) m K ↔ _
  rw [der_cmp hx]
  exact ⟨fun ⟨a, b, q⟩ => ⟨⟨a, b⟩, q⟩, fun ⟨⟨a, b⟩, q⟩ => ⟨a, b, q⟩⟩
theorem op_inT {x : D} (hx : x.cmp) (h1 : x.isFlat = true) (h : ds.all D.isFlat = true) : opM (rDer (rInA3 neg)) x (.tup ds) = pure (.bl (if neg then !ds.any (fun z => D.eqv z x) else ds.any (fun z => D.eqv z x))) := mp_iff (p := x.isFlat = true ∧ ds.all D.isFlat = true) ⟨h1, h⟩ fun m K X => by
  show rInA3 neg (m.der x) (.tup ds) m K ↔ _
  rw [der_cmp hx]
  exact ⟨fun ⟨a, b, q⟩ => ⟨⟨a, b⟩, q⟩, fun ⟨⟨a, b⟩, q⟩ => ⟨a, b, q⟩⟩
theorem op_inD {x : D} {ks : List Key} {o : Option D} (hx : x.cmp) (h : D.get (.dk ks ds) x = some o) : opM (rDer (rInA3 neg)) x (.dk ks ds) = pure (.bl (if neg then !o.isSome else o.isSome)) := MP.ext fun m K X => by
  show rInA3 neg (m.der x) (.dk ks ds) m K ↔ _
  rw [der_cmp hx]
  exact ⟨fun ⟨a, e, q⟩ => by rw [h] at e; cases e; exact q, fun q => ⟨_, h, q⟩⟩
theorem op_ixL {d : D} (h : atI ds i = some d) : opM (rDer (rIxA3 K)) (.lst ds) (.int i) = pure d := MP.ext fun m K X => ⟨fun ⟨a, e, q⟩ => by rw [h] at e; cases e; exact q, fun q => ⟨_, h, q⟩⟩
theorem op_ixScr {ns : List Int} {z : Int} (h : atI ns i = some z) : opM (rDer (rIxA3 K)) (.scr K ns) (.int i) = pure (.int z) := MP.ext fun m K X => ⟨fun ⟨_, a, b, e1, e, q⟩ => by cases e1; rw [h] at e; cases e; exact q, fun q => ⟨rfl, _, _, rfl, h, q⟩⟩
theorem cb_lenL : cbM (cDer (rLen3 K)) [.lst ds] = pure (.int ds.length) := MP.ext fun m K X => ⟨fun ⟨d, k, e, _, e2, q⟩ => by cases e; cases e2; exact q, fun q => ⟨_, _, rfl, trivial, rfl, q⟩⟩
theorem cb_lenT : cbM (cDer (rLen3 K)) [.tup ds] = pure (.int ds.length) := MP.ext fun m K X => ⟨fun ⟨d, k, e, _, e2, q⟩ => by cases e; cases e2; exact q, fun q => ⟨_, _, rfl, trivial, rfl, q⟩⟩
theorem cb_lenD {ks : List Key} : cbM (cDer (rLen3 K)) [.dk ks ds] = pure (.int ks.length) := MP.ext fun m K X => ⟨fun ⟨d, k, e, _, e2, q⟩ => by cases e; cases e2; exact q, fun q => ⟨_, _, rfl, trivial, rfl, q⟩⟩
theorem cb_lenScr {ns : List Int} : cbM (cDer (rLen3 K)) [.scr K ns] = pure (.int ns.length) := MP.ext fun m K X => ⟨fun ⟨d, k, e, _, e2, q⟩ => by cases e; cases e2; exact q, fun q => ⟨_, _, rfl, rfl, rfl, q⟩⟩
theorem cb_isi {p : D → Option Bool} {cv : V} {x : D} {b : Bool} (hd : ∀ m : Mem, m.der x = x) (h : p x = some b) : cbM (cDer (rIsi3 p cv)) [x, .raw cv] = pure (.bl b) := MP.ext fun m K X => by
  show rIsi3 p cv [m.der x, .raw cv] m K ↔ _
  rw [hd]
  exact ⟨fun ⟨d, k, e, e2, q⟩ => by cases e; rw [h] at e2; cases e2; exact q, fun q => ⟨_, _, rfl, h, q⟩⟩
theorem cb_isi2 {p p' : D → Option Bool} {cv cv' : V} {x : D} {b b' : Bool} (hd : ∀ m : Mem, m.der x = x) (h : p x = some b) (h' : p' x = some b') : cbM (cDer (rIsi23 p p' cv cv')) [x, .tup [.raw cv, .raw cv']] = pure (.bl (b || b')) := MP.ext fun m K X => by
  show rIsi23 p p' cv cv' [m.der x, .tup [.raw cv, .raw cv']] m K ↔ _
  rw [hd]
  exact ⟨fun ⟨d, k, k', e, e2, e3, q⟩ => by cases e; rw [h] at e2; rw [h'] at e3; cases e2; cases e3; exact q, fun q => ⟨_, _, _, rfl, h, h', q⟩⟩
theorem cb_int2 {g : Int → Int → Int} : cbM (cDer (rInt23 g)) [.int i, .int j] = pure (.int (g i j)) := MP.ext fun m K X => ⟨fun ⟨a, b, e, q⟩ => by cases e; exact q, fun q => ⟨_, _, rfl, q⟩⟩
theorem cb_abs : cbM (cDer rAbs3) [.int i] = pure (.int (if i < 0 then -i else i)) := MP.ext fun m K X => ⟨fun ⟨a, e, q⟩ => by cases e; exact q, fun q => ⟨_, rfl, q⟩⟩
theorem cb_tupL : cbM (cDer rTup3) [.lst ds] = pure (.tup ds) := MP.ext fun m K X => ⟨fun ⟨d, k, e, e2, q⟩ => by cases e; cases e2; exact q, fun q => ⟨_, _, rfl, rfl, q⟩⟩
theorem cb_tupT : cbM (cDer rTup3) [.tup ds] = pure (.tup ds) := MP.ext fun m K X => ⟨fun ⟨d, k, e, e2, q⟩ => by cases e; cases e2; exact q, fun q => ⟨_, _, rfl, rfl, q⟩⟩
theorem cb_intB {b : Bool} : cbM (cDer rInt3) [.bl b] = pure (.int (if b then 1 else 0)) := MP.ext fun m K X => ⟨fun q => Or.elim q (fun ⟨_, e, _⟩ => by cases e) (fun ⟨c, e, q⟩ => by cases e; exact q), fun q => Or.inr ⟨_, rfl, q⟩⟩
theorem cb_boolI : cbM (cDer rBool3) [.int i] = pure (.bl (i != 0)) := MP.ext fun m K X => ⟨fun q => Or.elim q (fun ⟨_, e, q⟩ => by cases e; exact q) (fun ⟨c, e, q⟩ => by cases e), fun q => Or.inl ⟨_, rfl, q⟩⟩
theorem slM_L {lo hi : Option Int} : slM (.lst ds) lo hi = pure (.lst (cutD ds lo hi)) := rfl
theorem slM_T {lo hi : Option Int} : slM (.tup ds) lo hi = pure (.tup (cutD ds lo hi)) := rfl
theorem isDict_dk {ks : List Key} : isDict (.dk ks ds) = pure () := chk_yes fun _ => rfl
theorem noX_mp {α : Type} {x : MP α} {a : α} (h : x = pure a) : x.noX = pure a := by rw [h]; rfl
end
end L3
set_option Elab.async false
set_option linter.all false
set_option maxRecDepth 100000
set_option maxHeartbeats 1000000
namespace L3
open PySem PySem.Spec PyProof.Rows L2
local instance xdeadM6 : XCt := XCt.dead
section
variable {R : Type} {a b c d e g h : D} {f : D → Option Bool} {Cs : List Addr} {cv cv' : V} {i : Int} {s : Str} {ds : List D} {t : Bool}
theorem cl0_n {f : MP R} : cl0 f [] = f := rfl
theorem cl1_n {f : D → MP R} : cl1 f [a] = f a := rfl
theorem cl2_n {f : D → D → MP R} : cl2 f [a, b] = f a b := rfl
theorem cl3_n {f : D → D → D → MP R} : cl3 f [a, b, c] = f a b c := rfl
theorem cl4_n {f : D → D → D → D → MP R} : cl4 f [a, b, c, d] = f a b c d := rfl
theorem cl5_n {f : D → D → D → D → D → MP R} : cl5 f [a, b, c, d, e] = f a b c d e := rfl
theorem cl6_n {f : D → D → D → D → D → D → MP R} : cl6 f [a, b, c, d, e, g] = f a b c d e g := rfl
theorem cl7_n {f : D → D → D → D → D → D → D → MP R} : cl7 f [a, b, c, d, e, g, h] = f a b c d e g h := rfl
/-- the kinds that are asked about plainly -/
def asked : D → Bool
  | .raw _ => false | .scr _ _ => false | .cel _ => false | .exn _ _ _ _ _ => false | .exd _ _ _ _ => false | .dt _ _ => false | .obj _ _ _ => false | _ => true
theorem asked_der {x : D} (hx : asked x = true) (m : Mem) : m.der x = x := by cases x <;> first | rfl | cases hx
theorem pB_asked {f : D → Bool} {x : D} (hx : asked x = true) : pB f Cs x = some (f x) := by cases x <;> first | rfl | cases hx
theorem pO_asked {C : Addr} {x : D} (hx : asked x = true) : pO C Cs x = some false := by cases x <;> first | rfl | cases hx
theorem isi_B {f : D → Bool} {x : D} (hx : asked x = true) : cbM (cDer (rIsi3 (pB f Cs) cv)) [x, .raw cv] = pure (.bl (f x)) := cb_isi (asked_der hx) (pB_asked hx)
theorem isi_BB {f g : D → Bool} {x : D} (hx : asked x = true) : cbM (cDer (rIsi23 (pB f Cs) (pB g Cs) cv cv')) [x, .tup [.raw cv, .raw cv']] = pure (.bl (f x || g x)) := cb_isi2 (asked_der hx) (pB_asked hx) (pB_asked hx)
theorem isi_O {C : Addr} {x : D} (hx : asked x = true) : cbM (cDer (rIsi3 (pO C Cs) cv)) [x, .raw cv] = pure (.bl false) := cb_isi (asked_der hx) (pO_asked hx)
theorem isB_non {f : D → Bool} : cbM (cDer (rIsi3 (pB f Cs) cv)) [.non, .raw cv] = pure (.bl (f .non)) := isi_B rfl
theorem isBB_non {f g : D → Bool} : cbM (cDer (rIsi23 (pB f Cs) (pB g Cs) cv cv')) [.non, .tup [.raw cv, .raw cv']] = pure (.bl (f .non || g .non)) := isi_BB rfl
theorem isO_non {C : Addr} : cbM (cDer (rIsi3 (pO C Cs) cv)) [.non, .raw cv] = pure (.bl false) := isi_O rfl
theorem isB_bl {f : D → Bool} : cbM (cDer (rIsi3 (pB f Cs) cv)) [.bl t, .raw cv] = pure (.bl (f (.bl t))) := isi_B rfl
theorem isBB_bl {f g : D → Bool} : cbM (cDer (rIsi23 (pB f Cs) (pB g Cs) cv cv')) [.bl t, .tup [.raw cv, .raw cv']] = pure (.bl (f (.bl t) || g (.bl t))) := isi_BB rfl
theorem isO_bl {C : Addr} : cbM (cDer (rIsi3 (pO C Cs) cv)) [.bl t, .raw cv] = pure (.bl false) := isi_O rfl
theorem isB_int {f : D → Bool} : cbM (cDer (rIsi3 (pB f Cs) cv)) [.int i, .raw cv] = pure (.bl (f (.int i))) := isi_B rfl
theorem isBB_int {f g : D → Bool} : cbM (cDer (rIsi23 (pB f Cs) (pB g Cs) cv cv')) [.int i, .tup [.raw cv, .raw cv']] = pure (.bl (f (.int i) || g (.int i))) := isi_BB rfl
theorem isO_int {C : Addr} : cbM (cDer (rIsi3 (pO C Cs) cv)) [.int i, .raw cv] = pure (.bl false) := isi_O rfl
theorem isB_str {f : D → Bool} : cbM (cDer (rIsi3 (pB f Cs) cv)) [.str s, .raw cv] = pure (.bl (f (.str s))) := isi_B rfl
theorem isBB_str {f g : D → Bool} : cbM (cDer (rIsi23 (pB f Cs) (pB g Cs) cv cv')) [.str s, .tup [.raw cv, .raw cv']] = pure (.bl (f (.str s) || g (.str s))) := isi_BB rfl
theorem isO_str {C : Addr} : cbM (cDer (rIsi3 (pO C Cs) cv)) [.str s, .raw cv] = pure (.bl false) := isi_O rfl
theorem isB_lst {f : D → Bool} : cbM (cDer (rIsi3 (pB f Cs) cv)) [.lst ds, .raw cv] = pure (.bl (f (.lst ds))) := isi_B rfl
theorem isBB_lst {f g : D → Bool} : cbM (cDer (rIsi23 (pB f Cs) (pB g Cs) cv cv')) [.lst ds, .tup [.raw cv, .raw cv']] = pure (.bl (f (.lst ds) || g (.lst ds))) := isi_BB rfl
theorem isO_lst {C : Addr} : cbM (cDer (rIsi3 (pO C Cs) cv)) [.lst ds, .raw cv] = pure (.bl false) := isi_O rfl
theorem isB_tup {f : D → Bool} : cbM (cDer (rIsi3 (pB f Cs) cv)) [.tup ds, .raw cv] = pure (.bl (f (.tup ds))) := isi_B rfl
theorem isBB_tup {f g : D → Bool} : cbM (cDer (rIsi23 (pB f Cs) (pB g Cs) cv cv')) [.tup ds, .tup [.raw cv, .raw cv']] = pure (.bl (f (.tup ds) || g (.tup ds))) := isi_BB rfl
theorem isO_tup {C : Addr} : cbM (cDer (rIsi3 (pO C Cs) cv)) [.tup ds, .raw cv] = pure (.bl false) := isi_O rfl
theorem isB_dk {f : D → Bool} {ks : List Key} : cbM (cDer (rIsi3 (pB f Cs) cv)) [.dk ks ds, .raw cv] = pure (.bl (f (.dk ks ds))) := isi_B rfl
theorem isBB_dk {f g : D → Bool} {ks : List Key} : cbM (cDer (rIsi23 (pB f Cs) (pB g Cs) cv cv')) [.dk ks ds, .tup [.raw cv, .raw cv']] = pure (.bl (f (.dk ks ds) || g (.dk ks ds))) := isi_BB rfl
theorem isO_dk {C : Addr} {ks : List Key} : cbM (cDer (rIsi3 (pO C Cs) cv)) [.dk ks ds, .raw cv] = pure (.bl false) := isi_O rfl
theorem eNM_p {o : O} : eNM (pure o) = pure o.toD := rfl
theorem toD_lst : O.toD (.lst ds) = .lst ds := rfl
theorem toD_dk {ks : List Key} : O.toD (.dk ks ds) = .dk ks ds := rfl
theorem tup2 : tupM [a, b] = pure (.tup [a, b]) := tupM_ok (by show 2 ≤ sizeLine; decide)
theorem tup1 : tupM [a] = pure (.tup [a]) := tupM_ok (by show 1 ≤ sizeLine; decide)
theorem tup0 : tupM [] = pure (.tup []) := tupM_ok (by show 0 ≤ sizeLine; decide)
theorem tup3 : tupM [a, b, c] = pure (.tup [a, b, c]) := tupM_ok (by show 3 ≤ sizeLine; decide)
theorem tup4 : tupM [a, b, c, d] = pure (.tup [a, b, c, d]) := tupM_ok (by show 4 ≤ sizeLine; decide)
theorem lst0 : lstM [] = pure (.lst []) := lstM_ok (by show 0 ≤ sizeLine; decide)
theorem lst1 : lstM [a] = pure (.lst [a]) := lstM_ok (by show 1 ≤ sizeLine; decide)
theorem lst2 : lstM [a, b] = pure (.lst [a, b]) := lstM_ok (by show 2 ≤ sizeLine; decide)
theorem lst3 : lstM [a, b, c] = pure (.lst [a, b, c]) := lstM_ok (by show 3 ≤ sizeLine; decide)
theorem lst4 : lstM [a, b, c, d] = pure (.lst [a, b, c, d]) := lstM_ok (by show 4 ≤ sizeLine; decide)
theorem lst5 : lstM [a, b, c, d, e] = pure (.lst [a, b, c, d, e]) := lstM_ok (by show 5 ≤ sizeLine; decide)
theorem isInt_int : D.isInt (.int i) = true := rfl
theorem isInt_bl : D.isInt (.bl t) = true := rfl
theorem isInt_str : D.isInt (.str s) = false := rfl
theorem isInt_tup : D.isInt (.tup ds) = false := rfl
theorem isInt_lst : D.isInt (.lst ds) = false := rfl
theorem isInt_non : D.isInt .non = false := rfl
theorem isInt_dk {ks : List Key} : D.isInt (.dk ks ds) = false := rfl
theorem isBl_int : D.isBl (.int i) = false := rfl
theorem isBl_bl : D.isBl (.bl t) = true := rfl
theorem isBl_str : D.isBl (.str s) = false := rfl
theorem isBl_tup : D.isBl (.tup ds) = false := rfl
theorem isBl_lst : D.isBl (.lst ds) = false := rfl
theorem isBl_non : D.isBl .non = false := rfl
theorem isStr_int : D.isStr (.int i) = false := rfl
theorem isStr_bl : D.isStr (.bl t) = false := rfl
theorem isStr_s : D.isStr (.str s) = true := rfl
theorem isStr_tup : D.isStr (.tup ds) = false := rfl
theorem isStr_lst : D.isStr (.lst ds) = false := rfl
theorem isStr_non : D.isStr .non = false := rfl
theorem isTup_int : D.isTup (.int i) = false := rfl
theorem isTup_bl : D.isTup (.bl t) = false := rfl
theorem isTup_str : D.isTup (.str s) = false := rfl
theorem isTup_tup : D.isTup (.tup ds) = true := rfl
theorem isTup_lst : D.isTup (.lst ds) = false := rfl
theorem isTup_non : D.isTup .non = false := rfl
theorem dLst_int : D.isLst (.int i) = false := rfl
theorem dLst_bl : D.isLst (.bl t) = false := rfl
theorem dLst_str : D.isLst (.str s) = false := rfl
theorem dLst_tup : D.isLst (.tup ds) = false := rfl
theorem dLst_lst : D.isLst (.lst ds) = true := rfl
theorem dLst_non : D.isLst .non = false := rfl
theorem cmpI : (D.int i).cmp := ⟨rfl, Nat.zero_le _⟩
theorem cmpS : (D.str s).cmp := ⟨rfl, Nat.zero_le _⟩
theorem op_eqI {neg : Bool} {j : Int} : opM (rDer (rEqA3 neg)) (.int i) (.int j) = pure (.bl (if neg then !decide (i = j) else decide (i = j))) := op_eq cmpI cmpI
theorem op_eqS {neg : Bool} {s' : Str} : opM (rDer (rEqA3 neg)) (.str s) (.str s') = pure (.bl (if neg then !decide (s = s') else decide (s = s'))) := op_eq cmpS cmpS
theorem ite_mt {x y : MP R} : (if true = true then x else y) = x := rfl
theorem ite_mf {x y : MP R} : (if false = true then x else y) = y := rfl
end
end L3
set_option Elab.async false
set_option linter.all false
set_option maxRecDepth 100000
set_option maxHeartbeats 1000000
namespace L3
open PySem PySem.Spec PyProof.Rows L2
local instance xdeadM7 : XCt := XCt.dead
section
variable {α : Type} {g : α → D} {k : α → Key} {y z : α → D}
/-- a comprehension over a list's images -/
theorem lcM_l {xi : MP It5} {b : D → MP (Option D)} {l : List α} {f : α → D} (hi : xi = pure ⟨l.map g, fun _ => True⟩) (h : ∀ a ∈ l, b (g a) = pure (some (f a))) (hz : l.length ≤ sizeLine) : lcM xi b = pure (.lst (l.map f)) := by
  unfold lcM
  rw [hi, mp_pb]
  show (lcK (fun _ => True) b (l.map g) [] >>= fun ds => (pure (.lst ds) : MP O)) = _
  have key : ∀ (l : List α) (acc : List D), (∀ a ∈ l, b (g a) = pure (some (f a))) → acc.length + l.length ≤ sizeLine → lcK (fun _ => True) b (l.map g) acc = pure (acc ++ l.map f) := by
    intro l
    induction l with
    | nil => intro acc _ _; rw [List.map_nil]; unfold lcK; rw [chk_true, List.map_nil, List.append_nil]; rfl
    | cons a l ih =>
      intro acc h hz
      rw [List.length_cons] at hz
      rw [List.map_cons]
      unfold lcK
      rw [chk_true, mp_pb, noX_mp (h a List.mem_cons_self), mp_pb]
      dsimp only
      rw [chk_iff (by omega), mp_pb, ih (acc ++ [f a]) (fun a ha => h a (List.mem_cons_of_mem _ ha)) (by rw [List.length_append, List.length_singleton]; omega), List.append_assoc]; rfl
  rw [key l [] h (by simpa using hz)]; rfl
end
end L3
set_option Elab.async false
set_option linter.all false
set_option maxRecDepth 100000
set_option maxHeartbeats 2000000
namespace L2
open PySem PySem.Spec PyProof.Rows
section
variable {K : PySem.W.Frag} {x qual : Str} {params : Arguments} {body : List Stmt} {scope : Scope} {kws : List (Str × V)} {f : Addr} {fd : FuncData} {ps : List Str}
/-- plain parameters by keyword -/
theorem FunD.kbindsP (F : FunD K x qual params body scope [] kws f fd) (n : Nat) (ks : List Str) (g : {α : Type} → List α → List α → List α)
    (hrel : ∀ {vs zs : List V} {us ws : List Value}, Vals vs us → Vals zs ws → Vals (g vs zs) (g us ws))
    (h : ∀ (kV doc pm : Value) (an : Option Addr) (cdv ct : Value) (us ws : List Value), us.length = n → ws.length = ks.length → bindArgs (PySem.W.fnOf x qual params body scope .none kV doc pm an cdv ct) ⟨us, ks.zip ws⟩ = pure (ps.zip (g us ws))) :
    KBn K fd ps n ks (fun us ws => g us ws) (fun vs zs => g vs zs) := by
  obtain ⟨oc, od, dV, kV, doc, pm, an, cdv, ct, osl, rfl, lk, hcd, hD, hK⟩ := F.ex
  rcases hD with ⟨_, rfl⟩ | ⟨e, _⟩
  · exact ⟨fun s us ws X l1 l2 => BindsTo.of_looks fun M => .of_pure (h kV doc pm an cdv ct us ws l1 l2), fun r1 r2 => hrel r1 r2⟩
  · exact absurd rfl e
end
end L2
namespace L3
open PySem PySem.Spec PyProof.Rows L2
end L3
set_option Elab.async false
set_option linter.all false
set_option maxRecDepth 100000
set_option maxHeartbeats 2000000
namespace L3
open PySem PySem.Spec PyProof.Rows L2
end L3
set_option Elab.async false
set_option linter.all false
set_option maxRecDepth 100000
set_option maxHeartbeats 2000000
namespace L2
open PySem PySem.Spec PyProof.Rows PySem.Calls
end L2
namespace L3
open PySem PySem.Spec PyProof.Rows L2
end L3
set_option Elab.async false
set_option linter.all false
set_option maxRecDepth 100000
set_option maxHeartbeats 2000000
namespace PyProof.Rows
open PySem PySem.Calls
end PyProof.Rows
namespace L2
open PySem PySem.Spec PyProof.Rows PySem.Calls
end L2
namespace L3
open PySem PySem.Spec PyProof.Rows L2
end L3
set_option Elab.async false
set_option linter.all false
set_option maxRecDepth 100000
set_option maxHeartbeats 2000000
namespace L2
open PySem PySem.Spec PyProof.Rows
end L2
namespace L3
open PySem PySem.Spec PyProof.Rows L2
end L3
set_option Elab.async false
set_option linter.all false
set_option maxRecDepth 100000
set_option maxHeartbeats 2000000
namespace L2
open PySem PySem.Spec PyProof.Rows
end L2
namespace L3
open PySem PySem.Spec PyProof.Rows L2
section
variable [XCt] {X : Cx} {K : PySem.W.Frag} {a b e : Expr} {ta tb te : TE3} {pos p : Pos} {CX : CXT} {C f : Addr} {fd : FuncData} {ps : List Str} {n : Nat} {sp : Sp3} {E : XK} {Cs : List Addr}
/-- the types that may stand on the other side of an own == -/
structure NFst (K : PySem.W.Frag) (C : Addr) (Cs : List Addr) : Prop where
  t : ∀ T ∈ ["NoneType", "bool", "int", "str", "list", "tuple", "dict"], PySem.W.notFirst K C (.type T) = true
  c : ∀ C' ∈ Cs, C8.InsC K C' ∧ PySem.W.notFirst K C (.ref C') = true
def nfD (Cs : List Addr) : D → Bool
  | .non => true
  | .bl _ => true
  | .int _ => true
  | .str _ => true
  | .lst _ => true
  | .tup _ => true
  | .dk _ _ => true
  | .box => true
  | .obj C _ _ => decide (C ∈ Cs)
  | _ => false
theorem NFst.ty (z : NFst K C Cs) : ∀ {d : D}, nfD Cs d = true → ∃ t, d.ty = some t ∧ PySem.W.notFirst K C t = true ∧ ∀ C' ns ds, d = .obj C' ns ds → C8.InsC K C'
  | .non, _ => ⟨_, rfl, z.t "NoneType" (by simp), fun _ _ _ e => by cases e⟩
  | .bl _, _ => ⟨_, rfl, z.t "bool" (by simp), fun _ _ _ e => by cases e⟩
  | .int _, _ => ⟨_, rfl, z.t "int" (by simp), fun _ _ _ e => by cases e⟩
  | .str _, _ => ⟨_, rfl, z.t "str" (by simp), fun _ _ _ e => by cases e⟩
  | .lst _, _ => ⟨_, rfl, z.t "list" (by simp), fun _ _ _ e => by cases e⟩
  | .tup _, _ => ⟨_, rfl, z.t "tuple" (by simp), fun _ _ _ e => by cases e⟩
  | .dk _ _, _ => ⟨_, rfl, z.t "dict" (by simp), fun _ _ _ e => by cases e⟩
  | .box, _ => ⟨_, rfl, z.t "list" (by simp), fun _ _ _ e => by cases e⟩
  | .obj C' _ _, h => ⟨_, rfl, (z.c C' (of_decide_eq_true h)).2, fun _ _ _ e => by cases e; exact (z.c C' (of_decide_eq_true h)).1⟩
  | .dt _ _, h => nomatch h
  | .raw _, h => nomatch h
  | .scr _ _, h => nomatch h
  | .cel _, h => nomatch h
  | .exn _ _ _ _ _, h => nomatch h
  | .exd _ _ _ _, h => nomatch h
end
end L3
set_option Elab.async false
set_option linter.all false
set_option maxRecDepth 100000
set_option maxHeartbeats 2000000
namespace PySem.W
open PySem PySem.Calls PyProof.Rows Builtin SeqAt AutoSeq1 MeetsSeq MeetsSeq2 MeetsSeq3
end PySem.W
namespace PySem.W
open PySem PySem.Calls PyProof.Rows Builtin SeqAt AutoSeq1 MeetsSeq MeetsSeq2 MeetsSeq3
end PySem.W
namespace PySem.W
open PySem PySem.Calls PyProof.Rows Builtin SeqAt
end PySem.W
namespace L2
open PySem PySem.Spec PyProof.Rows
end L2
namespace L3
open PySem PySem.Spec PyProof.Rows L2
end L3
set_option Elab.async false
set_option linter.all false
set_option maxRecDepth 100000
set_option maxHeartbeats 2000000
namespace L2
open PySem PySem.Spec PyProof.Rows
end L2
namespace L2
open PySem PySem.Spec PyProof.Rows
end L2
namespace L2
open PySem PySem.Spec PyProof.Rows
end L2
namespace L3
open PySem PySem.Spec PyProof.Rows L2
end L3
set_option Elab.async false
set_option linter.all false
set_option maxRecDepth 100000
set_option maxHeartbeats 2000000
namespace PySem
open Sem (wp)
open PySem.W (KdxIt kdx_alive)
end PySem
namespace L2
open PySem PySem.Spec PyProof.Rows
end L2
namespace L3
open PySem PySem.Spec PyProof.Rows L2
end L3
set_option Elab.async false
set_option linter.all false
set_option maxRecDepth 100000
set_option maxHeartbeats 2000000
namespace L2
open PySem PySem.Spec PyProof.Rows
def kPy : Key → PyData
  | .inl i => .int i
  | .inr x => .str x
/-- a value that is no thing of the heap -/
inductive FlatV : V → PyData → Prop
  | non : FlatV .non .none
  | bl (b : Bool) : FlatV (.bl b) (.bool b)
  | int (i : Int) : FlatV (.int i) (.int i)
  | str (x : Str) : FlatV (.str x) (.str x)
theorem FlatV.reads {h : Heap} {v : V} {d : PyData} {u : Value} (f : FlatV v d) (r : RelV v u) : Reads h u d [] := by
  cases f with
  | non => cases (show u = Value.none from r); exact .none
  | bl b => cases (show u = Value.bool b from r); exact .bool b
  | int i => obtain ⟨t, e⟩ := (show ∃ t, u = Value.int i t from r); subst e; exact .int i t
  | str x => obtain ⟨t, e⟩ := (show ∃ t, u = Value.str x t from r); subst e; exact .str x t
theorem key_reads {h : Heap} {P : Program} {w : World} {k : Key} {u : Value} (r : (mixKind P w).is k u = true) : Reads h u (kPy k) [] := by
  have r := relV_key (show keyIs k u = true from r)
  cases k with
  | inl i => obtain ⟨t, e⟩ := (show ∃ t, u = Value.int i t from r); subst e; exact .int i t
  | inr x => obtain ⟨t, e⟩ := (show ∃ t, u = Value.str x t from r); subst e; exact .str x t
end L2
namespace L3
open PySem PySem.Spec PyProof.Rows L2
variable [XCt]
section
variable {X : Cx} {ks : List Key} {ds : List D}
def D.thin : D → Bool
  | .non => true
  | .bl _ => true
  | .int _ => true
  | .str _ => true
  | _ => false
def dkPy (ks : List Key) (ds : List D) : List (PyData × PyData) := List.zipWith (fun k d => (kPy k, d.py)) ks ds
/-- repr of data without dicts, or of a dict with flat values; behind a cell too -/
def showDk (ks : List Key) (ds : List D) : Prop := ds.all D.thin = true ∧ (PyData.dict (dkPy ks ds)).showable = true ∧ (PyData.dict (dkPy ks ds)).depth ≤ 64 ∧ (PyData.dict (dkPy ks ds)).shown.length ≤ sizeLine
def rReprA3 : RC3 := fun ds n Q => ∃ d, ds = [d] ∧ ((d.showOk ∧ Q (.raw (.str d.py.shown)) n) ∨ ∃ ks es, d = .dk ks es ∧ showDk ks es ∧ Q (.raw (.str (PyData.dict (dkPy ks es)).shown)) n)
end
end L3
set_option Elab.async false
set_option linter.all false
set_option maxRecDepth 100000
set_option maxHeartbeats 1000000
namespace L3
open PySem PySem.Spec PyProof.Rows L2
end L3
set_option Elab.async false
set_option linter.all false
set_option maxRecDepth 100000
set_option maxHeartbeats 1000000
namespace L3
open PySem PySem.Spec PyProof.Rows L2
end L3
set_option Elab.async false
set_option linter.all false
set_option maxRecDepth 100000
set_option maxHeartbeats 1000000
namespace He
open PySem PySem.Spec PyProof.Rows L2 L3
end He
set_option Elab.async false
set_option linter.all false
set_option maxRecDepth 100000
set_option maxHeartbeats 1000000
namespace L3
open PySem PySem.Spec PyProof.Rows L2
variable [XCt]
/-- an operator at values told as data -/
structure OpE (X : Cx) (f : Value → Value → Sem Value) (r3 : R23) : Prop where
  ex : ∃ r, OpR X f r ∧ ∀ (w : Wd) (H : Hp) (x y : V) (dx dy : D) (Q : K3), WOk w H → DR w.B w.G dx x → DR w.B w.G dy y → r3 dx dy w.n Q → ∃ Q', (∀ v H', Q' v H' → ∃ w' d, Step w H w' H' ∧ DR w'.B w'.G d v ∧ Q d w'.n) ∧ r x y H Q'
def rOr (r r' : R23) : R23 := fun x y n Q => r x y n Q ∨ r' x y n Q
section
variable {X : Cx} {f : Value → Value → Sem Value} {r3 r3' : R23} {a b : Expr} {ta tb : TE3} {pos : Pos}
theorem OpE.or (h : OpE X f r3) (h' : OpE X f r3') : OpE X f (rOr r3 r3') := by
  obtain ⟨r, hr, i⟩ := h.ex
  obtain ⟨r', hr', i'⟩ := h'.ex
  refine ⟨fun x y H Q => r x y H Q ∨ r' x y H Q, fun pins s σ H x y v u Q I rx ry q => q.elim (hr pins s σ H x y v u Q I rx ry) (hr' pins s σ H x y v u Q I rx ry), fun w H x y dx dy Q ok rx ry q => ?_⟩
  rcases q with q | q
  · obtain ⟨Q', k, q⟩ := i w H x y dx dy Q ok rx ry q
    exact ⟨Q', k, .inl q⟩
  · obtain ⟨Q', k, q⟩ := i' w H x y dx dy Q ok rx ry q
    exact ⟨Q', k, .inr q⟩
end
structure CallE (X : Cx) (f : Value) (r3 : RC3) : Prop where
  ex : ∃ r, CallR X f r ∧ ∀ (w : Wd) (H : Hp) (vs : List V) (ds : List D) (Q : K3), WOk w H → DRs w.B w.G ds vs → r3 ds w.n Q → ∃ Q', (∀ v H', Q' v H' → ∃ w' d, Step w H w' H' ∧ DR w'.B w'.G d v ∧ Q d w'.n) ∧ r vs H Q'
def cOr3 (r r' : RC3) : RC3 := fun ds n Q => r ds n Q ∨ r' ds n Q
section
variable {X : Cx} {f : Value} {r3 r3' : RC3} {x : Str} {p pos : Pos} {e : Expr} {es : List Expr} {t : TA3}
theorem CallE.or (h : CallE X f r3) (h' : CallE X f r3') : CallE X f (cOr3 r3 r3') := by
  obtain ⟨r, hr, i⟩ := h.ex
  obtain ⟨r', hr', i'⟩ := h'.ex
  refine ⟨_, CallR.or hr hr', fun w H vs ds Q ok rv q => ?_⟩
  rcases q with q | q
  · obtain ⟨Q', k, q⟩ := i w H vs ds Q ok rv q
    exact ⟨Q', k, .inl q⟩
  · obtain ⟨Q', k, q⟩ := i' w H vs ds Q ok rv q
    exact ⟨Q', k, .inr q⟩
end
end L3
set_option Elab.async false
set_option linter.all false
set_option maxRecDepth 100000
set_option maxHeartbeats 1000000
namespace L2
open PySem PySem.Spec PyProof.Rows
end L2
namespace L3
open PySem PySem.Spec PyProof.Rows L2
end L3
set_option Elab.async false
set_option linter.all false
set_option maxRecDepth 100000
set_option maxHeartbeats 1000000
namespace Warm
open PySem PySem.Spec PyProof.Rows HotX
section
variable {prog : Program} {w : World} {A : Around} {E : Value → Shared → Prop} {s : Shared} {z : Addr}
/-- a new StopIteration, its context set -/
theorem stop {α : Type} {Q : α → Shared → Prop} (ht : HotAt A z s.heap) (k : ∀ h' e oe, (∀ b o, s.heap.get? b = some o → h'.get? b = some o) → h'.get? e = some oe → oe.cls = .type "StopIteration" → E (.ref e) { s with heap := h' }) :
    wpAny (model prog w) A (newExc (.type "StopIteration") [] >>= fun e => (raiseNew e : Sem α)) Q E s := by
  obtain ⟨a, o, vs, b, c, d⟩ := ht
  refine wpAny_bind ?_
  unfold newExc newTuple
  refine wpAny_bind (wpAny_newObj_type ?_ (by size_fits))
  refine wpAny_bind (m := firstArgMember _ _) (wpAny_of_eq (a := Value.none) (by first | rfl | (unfold firstArgMember; rfl)) ?_)
  refine wpAny_newObj_type ?_ (by size_fits)
  refine raiseNew_hot ⟨a, o, vs, Heap.get?_push_of_some _ (Heap.get?_push_of_some _ b), c, d⟩ (Nat.ne_of_lt (Heap.lt_size (Heap.get?_push_of_some _ b))) (Heap.get?_push_size _ rfl) rfl (by first | (simp; done) | (simp; omega)) ?_
  refine k _ _ _ (fun p q e => ?_) (Heap.get?_update_self _ (Heap.get?_push_size _ rfl) rfl) rfl
  rw [Heap.get?_update_other _ _ (Nat.ne_of_gt (Heap.lt_size (Heap.get?_push_of_some _ e)))]
  exact Heap.get?_push_of_some _ (Heap.get?_push_of_some _ e)
end
end Warm
namespace L2
open PySem PySem.Spec PyProof.Rows L2H HotX
end L2
set_option Elab.async false
set_option linter.all false
set_option maxRecDepth 100000
set_option maxHeartbeats 2000000
namespace L2
open PySem PySem.Spec PyProof.Rows L2H HotX
/-- a block's context, the handled exception kept -/
abbrev Cx.blkW (X : Cx) (s : Shared) (H : Hp) (scope : Scope) (ce : Env) (fp : List Addr) : Cx := { X.blk s H scope ce fp with pn := X.pn }
section
variable {X : Cx} {pins : List (Addr × Obj)} {σ : St} {H : Hp} {s : Shared} {scope : Scope} {own : List (Str × Nat)} {fp : List Addr} {ce : Env}
structure PinAt (X : Cx) (ce : Env) (H : Hp) (s : Shared) (p : Addr × Obj) : Prop where
  get : s.heap.get? p.1 = some p.2
  non : H p.1 = none
  nel : p.1 ≠ ce.locals
  nst : p.1 ∉ frs X.stack
  noc : ∀ v, p.2.data ≠ .cell v
theorem blkW_inv {s0 : Shared} {H0 : Hp} (J : Inv (X.blk s0 H0 scope ce fp) [] σ H s) (hp : ∀ p ∈ X.pn, PinAt X ce H s p) : Inv (X.blkW s0 H0 scope ce fp) [] σ H s where
  ok := let k := J.ok; ⟨k.mod, k.kind, k.glob, k.blt, k.above, k.inj, k.has, k.cab, k.hd, k.frames, k.stk, k.exf, k.bs, k.bsz, k.noex, k.exfs, k.funs, k.frf⟩
  os := J.os
  bare := J.bare
  base := J.base
  loc := J.loc
  cell := J.cell
  free := J.free
  freeC := J.freeC
  pin := fun p hm => by
    rw [List.append_nil] at hm
    have q := hp p hm
    exact ⟨q.get, q.non, q.nel, q.nst, q.noc⟩
  hok := J.hok
  len := J.len
theorem hotW (hc : HotC X) {s0 : Shared} {H0 : Hp} : HotC (X.blkW s0 H0 scope ce fp) := hc
end
section
variable {X : Cx}
theorem lcH {pins : List (Addr × Obj)} {s : Shared} {σ : St} {H : Hp} {Q : VK} {elt tg iter : Expr} {ifs : List Expr} {scope : Scope} {own : List (Str × Nat)} {pos pos' : Pos} {wi : TI} {g : TG} {tt : TT} {te : TE} {use : Option (Value → Sem Unit)} {Qf : Value → Shared → Prop}
    (hc : HotC X) (hN : X.N.Nodup) (I : Inv X pins σ H s) (hi : PIH X tg iter wi) (ok : BlkOk X.N X.env.scope scope own)
    (hg : ∀ (z : Shared) (G : Hp) (C : Addr) (cl : List (Str × Addr)) (fp : List Addr), PG (X.blkW z G scope (compEnvC scope cl C X.env) fp) tg g) (ht : ∀ (z : Shared) (G : Hp) (C : Addr) (cl : List (Str × Addr)) (fp : List Addr), PTs (X.blkW z G scope (compEnvC scope cl C X.env) fp) ifs tt)
    (he : ∀ (z : Shared) (G : Hp) (C : Addr) (cl : List (Str × Addr)) (fp : List Addr), PE (X.blkW z G scope (compEnvC scope cl C X.env) fp) elt te) (hs : ∀ x, foldedSetIterable iter X.env x = pure x) (h : tLc wi g tt te (own.map (·.2)) σ H Q)
    (fin : ∀ D C s' m H', Inv X pins σ H' s' → Q (.ref D) H' → s'.heap.Ns C m → FpOk X pins H' C → compPost (model X.prog X.w) X.A X.xe use Qf (.ref D) C (.ok .next) s') :
    wpAny (model X.prog X.w) X.A (comprehension (.ListComp elt [⟨tg, iter, ifs, 0⟩] scope pos) scope X.env pos' (newList []) false (eval iter X.env) use) Qf X.xe s := by
  have fr : ∀ y ∈ scope.names, y.2 = .free → ∃ c, X.env.cells.lookup y.1 = some c := fun y hy e => (ok.free y hy e).elim (fun k => I.ok.has _ (.inl k)) fun k => I.ok.has _ (.inr k)
  refine wpAny_comprehension_free (use := use) rfl hs (closure_ok fr) ok.kind (fun y hy e => by rw [ok.uniq y hy, e]) (thn (hi.run pins s σ H _ I h) fun xv s1 hx => thn hx fun itv s2 hit => ?_)
  obtain ⟨it, fp, tn, J, G2, eit, I2, T, t0, ff, q⟩ := hit
  subst eit
  refine wpAny_newObj_type (newEnv_comp ?_) (by show 0 ≤ sizeLine; decide)
  have hDn : G2 s2.heap.objs.size = none := I2.hok.fresh (Nat.le_refl _)
  obtain ⟨W, ⟨m0, w0⟩, turn⟩ := q s2.heap.objs.size hDn
  obtain ⟨D, hD⟩ : ∃ D, D = s2.heap.objs.size := ⟨_, rfl⟩
  rw [← hD] at hDn turn w0 ⊢
  obtain ⟨s3, e3⟩ : ∃ s3 : Shared, s3 = { s2 with heap := s2.heap.push { cls := .type "list", data := .seq ([] : List Value).toArray } } := ⟨_, rfl⟩
  have k3 : ∀ b o, s2.heap.get? b = some o → s3.heap.get? b = some o := fun b o e => by rw [e3]; exact Heap.get?_push_of_some _ e
  have I3 : Inv X pins σ (upd G2 D (.lst [])) s3 := by
    rw [e3]
    exact I2.laid (t' := s2.toks) (fun b o e => Heap.get?_push_of_some _ e) (Nat.le_of_eq hD.symm) ⟨Nat.zero_le _, [], 0, .nil, by rw [hD]; exact Heap.get?_push_size _ rfl⟩
  have lt : ∀ b ∈ fp, b < s2.heap.objs.size := fun b hb => let ⟨o, e, _⟩ := T.obj _ _ t0 b hb; Heap.lt_size e
  have f3 : ∀ b ∈ fp, FpOk X pins (upd G2 D (.lst [])) b ∧ b < s3.heap.objs.size := fun b hb =>
    ⟨⟨by rw [upd_ne (by rw [hD]; exact Nat.ne_of_lt (lt b hb))]; exact (ff b hb).1, (ff b hb).2⟩, by rw [e3]; show b < (s2.heap.push _).objs.size; rw [Heap.size_push]; exact Nat.lt_succ_of_lt (lt b hb)⟩
  have t3 : tn 0 s3.heap := T.keep _ _ _ t0 fun b _ o e => k3 b o e
  have B0 := block_start I3 ok hN f3
  obtain ⟨G3, eG⟩ : ∃ G3, G3 = upd G2 D (.lst []) := ⟨_, rfl⟩
  rw [← eG] at I3 f3 B0 w0
  obtain ⟨ce, ece⟩ : ∃ ce, ce = compEnvC scope (cellsFrom (s3.heap.objs.size + 1) scope.names (cloFrom X.env.cells scope.names [])) s3.heap.objs.size X.env := ⟨_, rfl⟩
  have pg := hg s3 G3 s3.heap.objs.size (cellsFrom (s3.heap.objs.size + 1) scope.names (cloFrom X.env.cells scope.names [])) fp
  have pt := ht s3 G3 s3.heap.objs.size (cellsFrom (s3.heap.objs.size + 1) scope.names (cloFrom X.env.cells scope.names [])) fp
  have pe := he s3 G3 s3.heap.objs.size (cellsFrom (s3.heap.objs.size + 1) scope.names (cloFrom X.env.cells scope.names [])) fp
  have cL : ce.locals = s3.heap.objs.size := by rw [ece]; rfl
  rw [← ece] at B0 pg pt pe
  obtain ⟨s4, e4⟩ : ∃ s4 : Shared, s4 = { s3 with heap := pushCells (s3.heap.push { cls := .type "dict", data := .dict #[] }) scope.names } := ⟨_, rfl⟩
  have k4 : ∀ b o, s3.heap.get? b = some o → s4.heap.get? b = some o := fun b o e => by rw [e4]; exact pushCells_keeps _ _ _ _ (Heap.get?_push_of_some _ e)
  rw [← e4] at B0
  have pn0 : ∀ p ∈ X.pn, PinAt X ce G3 s4 p := fun p hp => by
    obtain ⟨a1, a2, a3, a4, a5⟩ := I3.pin p (List.mem_append_left _ hp)
    refine ⟨k4 _ _ a1, a2, by rw [cL]; exact Nat.ne_of_lt (Heap.lt_size a1), fun hm => ?_, a5⟩
    rcases List.mem_cons.mp (I3.stkSub p.1 hm) with z | z
    · exact a3 z
    · exact a4 z
  have I4 := blkW_inv B0 pn0
  have t4 : tn 0 s4.heap := T.keep _ _ _ t3 fun b _ o e => k4 b o e
  have nf0 : ∀ b ∈ fp, G3 b = none := fun b hb => (f3 b hb).1.1
  have stay : ∀ {σ' : St} {G' : Hp} {s' : Shared}, Inv (X.blkW s3 G3 scope ce fp) [] σ' G' s' → (∀ b ∈ fp, G' b = none) → ∀ b ∈ fp, FpOk (X.blkW s3 G3 scope ce fp) [] G' b := fun {σ' G' s'} I' hn b hb =>
    ⟨hn b hb, (I'.ok.exf b hb).1, I'.ok.exfs b hb, .inl hb, (I'.ok.exf b hb).2, fun p hp => (f3 b hb).1.2.2.2.2.2 p (List.mem_append_left _ (by simpa using hp))⟩
  show codeAny _ _ (.compStart (.ListComp elt [⟨tg, iter, ifs, 0⟩] scope pos) 0 (.ref it) (.ref D) (compEnvC scope (cellsFrom ((s2.heap.push { cls := .type "list", data := .seq ([] : List Value).toArray }).objs.size + 1) scope.names (cloFrom X.env.cells scope.names [])) (s2.heap.push { cls := .type "list", data := .seq ([] : List Value).toArray }).objs.size X.env)) _ _
  have es : (s2.heap.push { cls := .type "list", data := .seq ([] : List Value).toArray }) = s3.heap := by rw [e3]
  rw [es, ← ece]
  have goal : ∀ s9 : Shared, s9 = s4 → codeAny (model X.prog X.w) X.A (.compStart (.ListComp elt [⟨tg, iter, ifs, 0⟩] scope pos) 0 (.ref it) (.ref D) ce) (compPost (model X.prog X.w) X.A X.xe use Qf (.ref D) s3.heap.objs.size) s9 := fun s9 e9 => by
    subst e9
    have loop : codeAny (model X.prog X.w) X.A (.compLoop (.ListComp elt [⟨tg, iter, ifs, 0⟩] scope pos) 0 (.ref it) (.ref D) ce) (compPost (model X.prog X.w) X.A X.xe use Qf (.ref D) s3.heap.objs.size) s9 := by
      refine compLoop_any (fun n s' => ∃ i G', Inv (X.blkW s3 G3 scope ce fp) [] (wipe σ (own.map (·.2))) G' s' ∧ tn i s'.heap ∧ (∀ b ∈ fp, G' b = none) ∧ W i n G') ?_ m0 ⟨0, G3, I4, t4, nf0, w0⟩
      rintro n s5 ⟨i, G5, I5, t5, n5, w5⟩
      rcases turn i n G5 w5 with ⟨halt, qq⟩ | ⟨go, Nx, hNx, step⟩
      · refine thnF (T.done (X.blkW s3 G3 scope ce fp) rfl rfl rfl (hotW hc) i [] s5 _ G5 (fun _ _ => False) I5 (stay I5 n5) t5 halt) fun r s6 ⟨er, I6⟩ => ?_
        subst er
        obtain ⟨m, hn, _⟩ := I6.loc
        have hn : s6.heap.Ns ce.locals m := hn
        have nC : G5 ce.locals = none := I6.free
        rw [cL] at hn nC
        exact fin D s3.heap.objs.size s6 m G5 (I3.call' (ch := fp) I6.os I6.base I6.hok I6.bare fun b hb => let z := (f3 b hb).1.2; ⟨z.2.2.1, z.1, z.2.2.2.1, z.2.2.2.2⟩) qq hn (I3.fpOk (Nat.le_refl _) nC)
      · refine thnF (T.item (X.blkW s3 G3 scope ce fp) rfl rfl rfl (hotW hc) i [] s5 _ G5 (fun _ _ => False) I5 (stay I5 n5) t5 go) fun r s6 ⟨u, er, h6⟩ => ?_
        subst er
        refine thnF h6 fun _ s7 ⟨x, G7, I7, r7, y7, t7, n7⟩ => ?_
        refine thnF (pg.run _ s7 _ G7 x u _ (I7.pinned (stay I7 n7) (T.obj _ _ t7)) r7 (step x G7 y7)) fun _ s8 ⟨σ8, G8, I8, hw8, q8⟩ => ?_
        have back : ∀ {s' : Shared} {G' : Hp}, Inv (X.blkW s3 G3 scope ce fp) ([] ++ pinsAt fp s7.heap) σ8 G' s' → Nx G' → ∃ m, m < n ∧ ∃ i G', Inv (X.blkW s3 G3 scope ce fp) [] (wipe σ (own.map (·.2))) G' s' ∧ tn i s'.heap ∧ (∀ b ∈ fp, G' b = none) ∧ W i m G' := fun {s' G'} I' nx => by
          obtain ⟨m', hm, w'⟩ := hNx G' nx
          have at7 : ∀ b ∈ fp, ∀ o, s7.heap.get? b = some o → s'.heap.get? b = some o ∧ G' b = none := fun b hb o e => let z := I'.pin (b, o) (List.mem_append_right _ (List.mem_append_right _ (mem_pinsAt hb e))); ⟨z.1, z.2.1⟩
          refine ⟨m', hm, i + 1, G', (I'.unpinned (pins := [])).weak (by rw [← hw8, wipe_length]) (fun j v e => ?_), T.keep _ _ _ t7 fun b hb o e => (at7 b hb o e).1, fun b hb => let ⟨o, e, _⟩ := T.obj _ _ t7 b hb; (at7 b hb o e).2, w'⟩
          rw [← hw8] at e
          exact (wipe_some e).1
        refine thnF (pt.run _ s8 σ8 G8 _ I8 q8) fun b s9 ⟨G9, I9, q9⟩ => ?_
        cases b with
        | false => exact back I9 q9
        | true => exact thnF (pe.run _ s9 σ8 G9 _ I9 q9) fun y s10 ⟨yv, G10, I10, r10, acc, hD10, hz10, nx⟩ => app_ok (X := X.blkW s3 G3 scope ce fp) I10 hD10 hz10 r10 fun s11 I11 => back I11 nx
    exact codeAny_compStart_list loop (T.self X.A 0 _ _ _ t4 loop)
  exact goal _ (by rw [e4, e3])
theorem pe_lcH {elt tg iter : Expr} {ifs : List Expr} {scope : Scope} {own : List (Str × Nat)} {pos : Pos} {wi : TI} {g : TG} {tt : TT} {te : TE} (hc : HotC X) (hN : X.N.Nodup) (hi : PIH X tg iter wi) (ok : BlkOk X.N X.env.scope scope own)
    (hg : ∀ (z : Shared) (G : Hp) (C : Addr) (cl : List (Str × Addr)) (fp : List Addr), PG (X.blkW z G scope (compEnvC scope cl C X.env) fp) tg g) (ht : ∀ (z : Shared) (G : Hp) (C : Addr) (cl : List (Str × Addr)) (fp : List Addr), PTs (X.blkW z G scope (compEnvC scope cl C X.env) fp) ifs tt)
    (he : ∀ (z : Shared) (G : Hp) (C : Addr) (cl : List (Str × Addr)) (fp : List Addr), PE (X.blkW z G scope (compEnvC scope cl C X.env) fp) elt te) (hs : ∀ x, foldedSetIterable iter X.env x = pure x := by intro _; rfl) :
    PE X (.ListComp elt [⟨tg, iter, ifs, 0⟩] scope pos) (tLc wi g tt te (own.map (·.2))) :=
  ⟨fun pins s σ H Q I h => by
    rw [eval_ListComp]
    exact lcH hc hN I hi ok hg ht he hs h fun D C s' m H' I' q hn f => ⟨m, hn, fun h2 sb => ⟨.ref D, H', I'.turned (t' := s'.toks) (fun b o hb e => (sb.2 b hb).trans e) f.1 f.2.1 f.2.2.2.1 f.2.2.2.2.1 f.2.2.2.2.2, rfl, q⟩⟩⟩
end
end L2
set_option Elab.async false
set_option linter.all false
set_option maxRecDepth 100000
set_option maxHeartbeats 1000000
namespace L2
open PySem PySem.Spec PyProof.Rows L2H HotX
theorem RoomH.in1 {k : Nat} {A : Around} (r : RoomH (k + 1) A) : RoomH k A.in1 := ⟨by have := r.dp; show A.depth + _ + _ < _; omega, by have := r.un; show A.units + 1 + _ + _ < _; omega⟩
theorem RoomH.units {k : Nat} {A : Around} (r : RoomH k A) : A.units < cLine := by have := r.un; omega
end L2
namespace L3
open PySem PySem.Spec PyProof.Rows L2 L2H HotX
/-- room to run in, an exception handled -/
structure RmH (k : Nat) (X : Cx) : Prop where
  r : RoomH k X.A
  c : HotC X
theorem RmH.u {k : Nat} {X : Cx} (h : RmH k X) : X.A.units + 65 < cLine := by have := h.r.un; omega
theorem rmH_suite {X : Cx} {k : Nat} {a : Addr} {oe : Obj} {cls : Value} {d : Option Addr} {pn : List (Addr × Obj)} (hr : Rm k X) (hz : L2N.Zn cls d oe) (hf : ∃ vs, oe.data = .fields vs) : RmH k (X.suite a ((a, oe) :: pn)) :=
  ⟨⟨hr.r.dp, hr.r.un⟩, ⟨(a, oe), ⟨rfl, by obtain ⟨vs, e⟩ := hf; exact ⟨vs, e, hz.2.2 vs e⟩⟩, List.mem_cons_self⟩⟩
theorem PIH.imp {X : Cx} {tg iter : Expr} {t t' : TI} (h : PIH X tg iter t) (i : ∀ σ H Q, t' σ H Q → t σ H Q) : PIH X tg iter t' := ⟨fun pins s σ H Q I q => h.run pins s σ H Q I (i σ H Q q)⟩
variable [XCt]
structure DIH (X : Cx) (tg iter : Expr) (t : TI3) : Prop where
  pi : PIH X tg iter (tiOf X t)
section
variable {X : Cx} {tg iter elt : Expr} {ifs : List Expr} {scope : Scope} {own : List (PySem.Str × Nat)} {pos spos py : Pos} {is : List Nat} {wi : TI3} {g : TG3} {tt : TT3} {te : TE3} {i : Nat} {y : PySem.Str}
theorem n_lcH (hc : HotC X) (hN : X.N.Nodup) (hi : DIH X tg iter wi) (ok : BlkOk X.N X.env.scope scope own)
    (hg : ∀ (s : Shared) (H : Hp) (C : Addr) (cl : List (PySem.Str × Addr)) (fp : List Addr), @DG XCt.dead (X.blkW s H scope (compEnvC scope cl C X.env) fp) tg is g) (ht : ∀ (s : Shared) (H : Hp) (C : Addr) (cl : List (PySem.Str × Addr)) (fp : List Addr), @DTs XCt.dead (X.blkW s H scope (compEnvC scope cl C X.env) fp) ifs tt)
    (he : ∀ (s : Shared) (H : Hp) (C : Addr) (cl : List (PySem.Str × Addr)) (fp : List Addr), @DE XCt.dead (X.blkW s H scope (compEnvC scope cl C X.env) fp) elt te) (hsub : ∀ j ∈ is, j ∈ own.map (·.2) := by decide) (hs : ∀ x, foldedSetIterable iter X.env x = pure x := by intro _; rfl) :
    DN X (.ListComp elt [⟨tg, iter, ifs, 0⟩] scope pos) (nLc wi g tt te (own.map (·.2))) :=
  .of (pe_lcH hc hN hi.pi ok (fun s H C cl fp => letI := XCt.dead; PG.imp (hg s H C cl fp).pg gD_le) (fun s H C cl fp => letI := XCt.dead; PTs.imp (ht s H C cl fp).pts ttD_le) (fun s H C cl fp => letI := XCt.dead; PE.imp (he s H C cl fp).pe teD_le) hs) fun w w0 H0 σ3 σ H Q sr q => lc_imp hsub sr q fun _ _ ⟨w', ds, z⟩ => ⟨w', .lst ds, z⟩
end
end L3
set_option Elab.async false
set_option linter.all false
set_option maxRecDepth 100000
set_option maxHeartbeats 3200000
namespace L2
open PySem PySem.Spec PyProof.Rows
end L2
namespace L3
open PySem PySem.Spec PyProof.Rows L2
variable [XCt]
/-- repr, told as data -/
def rReprS3 : RC3 := fun ds n Q => ∃ d, ds = [d] ∧ d.showOk ∧ PyData.strOk d.py.shown = true ∧ Q (.str d.py.shown) n
end L3
set_option Elab.async false
set_option linter.all false
set_option maxRecDepth 100000
set_option maxHeartbeats 1000000
namespace L3
open PySem PySem.Spec PyProof.Rows L2
instance : MoC rReprS3 := ⟨fun h ⟨d, e, a, b, q⟩ => ⟨d, e, a, b, h _ _ q⟩⟩
instance : MoC rReprA3 := ⟨fun h ⟨d, e, q⟩ => ⟨d, e, q.imp (fun q => ⟨q.1, h _ _ q.2⟩) fun ⟨ks, es, e1, e2, q⟩ => ⟨ks, es, e1, e2, h _ _ q⟩⟩⟩
def isCelL (c : D) : MP Unit := MP.chk fun m => ∃ i ds, c = .cel i ∧ m.cs[i]? = some (some (.lst ds))
def isCel (c : D) : MP Unit := MP.chk fun _ => ∃ i, c = .cel i
def appCM (c d : D) : MP Unit := ⟨fun m K _ => ∃ i ds, c = .cel i ∧ m.cs[i]? = some (some (.lst ds)) ∧ ds.length < sizeLine ∧ K () (m.cset i (.lst (ds ++ [d]))), fun h _ ⟨a, b, e1, e2, e3, q⟩ => ⟨a, b, e1, e2, e3, h _ _ q⟩⟩
def setKCM (c y d : D) : MP Unit := ⟨fun m K _ => ∃ i o o', c = .cel i ∧ m.cs[i]? = some (some o) ∧ o.dlen < sizeLine ∧ o.put y d = some o' ∧ K () (m.cset i o'), fun h _ ⟨a, b, c, e1, e2, e3, e4, q⟩ => ⟨a, b, c, e1, e2, e3, e4, h _ _ q⟩⟩
section
variable [XCt] {R : Type} {K : R → Mem → Prop} {X : X3} {E : Ends3} {σ : St3} {u : TS3} {to te ti tv : TE3} {x y v : MP D} {r : MP R}
theorem s_appC (hx : XLe X σ) (ho : Ev1 to σ x) (h : Ev1 te σ y) (hk : EvS K X u E σ r) : EvS K X (dSeq (dAppC to te) u) E σ (x >>= fun c => isCelL c >>= fun _ => y >>= fun d => appCM c d >>= fun _ => r) :=
  ⟨ho.st hx fun c m ⟨⟨i, ds0, e, e2⟩, q⟩ => ⟨i, ds0, e, e2, h m _ (y.mono (fun d m' ⟨j, ds, e3, e4, e5, q⟩ => by
    rw [e] at e3; cases e3
    exact ⟨ds, e4, e5, hk.go _ q⟩) (fun e m' q => hx e m' q) q)⟩⟩
theorem s_setKC (hx : XLe X σ) (hv : Ev1 tv σ v) (ho : Ev1 to σ x) (hi : Ev1 ti σ y) (hk : EvS K X u E σ r) : EvS K X (dSeq (dSetKC to ti tv) u) E σ (v >>= fun d => x >>= fun c => isCel c >>= fun _ => y >>= fun j => setKCM c j d >>= fun _ => r) :=
  ⟨hv.st hx fun d m q => ho m _ (x.mono (fun c m' ⟨⟨i, e⟩, q⟩ => ⟨i, e, hi m' _ (y.mono (fun j m2 ⟨i', o, o', e3, e4, e5, e6, q⟩ => by
    rw [e] at e3; cases e3
    exact ⟨o, o', e4, e5, e6, hk.go _ q⟩) (fun e m' q => hx e m' q) q)⟩) (fun e m' q => hx e m' q) q)⟩
end
end L3
set_option Elab.async false
set_option linter.all false
set_option maxRecDepth 100000
set_option maxHeartbeats 1000000
namespace L2
open PySem PySem.Spec PyProof.Rows
section
variable {prog : Program} {w : World} {A : Around} {R : Result → Shared → Prop} {h : Heap} {g : Array GenState} {d : Drawn} {t : Nat} {os : OsState}
variable {nm q : Str} {C N : Addr} {bs bm bmB : List Value} {hdct : Bool} {sn : List Str} {sub : List Value} {ab : Bool} {col : Option Bool} {dd : Option Addr} {k0 k1 k2 k3 k5 : Option Value} {B newId initId : String}
/-- the built-in __init__: where the new args stand -/
theorem init_told (F : ExcBaseFacts B newId initId bmB) (hT : ∀ X : String, bm.contains (.type X) = bmB.contains (.type X)) {y t0 : Addr} {us : List Value}
    (hc : h.get? C = some (excClassObj nm q C N bs bm hdct sn sub ab col dd k0 k1 k2 k3 k5 newId)) (hy : h.get? y = some (HandSPX.excO C t0)) (hu : us.length ≤ sizeLine)
    (k : ∀ h', (∀ b o, b ≠ y → (h.push (PySem.W.kdv_tup us)).get? b = some o → h'.get? b = some o) → h'.get? y = some (HandSPX.excO C h.objs.size) → R (.ok (.ret .none)) ⟨h', g, d, t, os⟩) :
    codeAny (model prog w) A (.call (.builtin initId) ⟨.ref y :: us, []⟩) R ⟨h, g, d, t, os⟩ := by
  refine codeAny_call_builtin F.init.plain F.initEntry (HandSPX.check_init_own F hT hc hy rfl ?_)
  wp_walk
  refine k _ (fun b o ne e => ?_) ?_
  · rw [Heap.get?_update_other _ _ (Ne.symm ne)]; exact e
  · rw [Heap.get?_update_self _ (Heap.get?_push_of_some _ hy) rfl]; rfl
end
/-- at a: an exception of the class at C; its dict at d; its args in the tuple at t -/
def exr (a C : Addr) (d : Option Addr) (t : Addr) : HO := .ext fun h => h.get? a = some ({ cls := .ref C, dict := d, data := .fields #[.ref t, .none, .none, .none, .bool false, .none] } : Obj)
theorem exr_mk {P : Program} {w : World} {H : Hp} {h : Heap} {a C t : Addr} {d : Option Addr} (e : h.get? a = some ({ cls := .ref C, dict := d, data := .fields #[.ref t, .none, .none, .none, .bool false, .none] } : Obj)) : ObjOk P w H h a (exr a C d t) :=
  ⟨e, ⟨_, e⟩, fun _ _ z k => k _ z⟩
theorem exr_get {P : Program} {w : World} {H : Hp} {h : Heap} {a C t : Addr} {d : Option Addr} (ok : HOk P w H h) (e : H a = some (exr a C d t)) : h.get? a = some ({ cls := .ref C, dict := d, data := .fields #[.ref t, .none, .none, .none, .bool false, .none] } : Obj) := by
  have x : ObjOk P w H h a (.ext fun h => h.get? a = some ({ cls := .ref C, dict := d, data := .fields #[.ref t, .none, .none, .none, .bool false, .none] } : Obj)) := ok a _ e
  exact x.1
theorem exr_no {a C t : Addr} {d : Option Addr} : (∀ x, exr a C d t ≠ .own x) ∧ (∀ xs, exr a C d t ≠ .tup xs) ∧ (∀ o u, exr a C d t ≠ .frz o u) ∧ ∀ ps, exr a C d t ≠ .tbl ps :=
  ⟨fun x z => (nomatch (show HO.ext _ = HO.own x from z)), fun x z => (nomatch (show HO.ext _ = HO.tup x from z)), fun x y z => (nomatch (show HO.ext _ = HO.frz x y from z)), fun x z => (nomatch (show HO.ext _ = HO.tbl x from z))⟩
section
variable {X : Cx} {pins : List (Addr × Obj)} {σ : St} {H : Hp} {s : Shared} {a C t : Addr} {f : Str} {y : V} {u : Value} {Q : Unit → Shared → Prop} {E : Value → Shared → Prop} {A : Around}
/-- Base.__init__(self, ..) -/
theorem init_args {vs : List V} {us : List Value} {Q : Value → Shared → Prop} (T : OexC X.K C) (I : Inv X pins σ H s) (e : H a = some (exo a C none)) (r : Vals vs us) (hl : us.length ≤ sizeLine)
    (k : ∀ b s', H b = none → b ≠ a → Inv X pins σ (upd (upd H b (.tup vs)) a (exr a C none b)) s' → Q .none s') :
    wpAny (model X.prog X.w) A (call (.builtin "ValueError.__init__") (.ref a :: us)) Q E s := by
  obtain ⟨nm, qn, N, bs, bm, sn, sub, ab, col, dd, k0, k1, k2, k3, k5, hC, hbm⟩ := T.cls
  obtain ⟨t1, ho⟩ := exo_at I.hok e
  obtain ⟨h0, g0, d0, n0, o0⟩ := s
  refine wpAny_call (init_told F.excBase_ValueError (fun Y => HandSPX.refsVE_contains Y bm hbm) (I.kIn _ _ hC) ho hl fun h' kp hx => ?_)
  have nb : H h0.objs.size = none := I.hok.fresh (Nat.le_refl _)
  have ne : h0.objs.size ≠ a := Nat.ne_of_gt (Heap.lt_size ho)
  have I1 : Inv X pins σ (upd H h0.objs.size (.tup vs)) ⟨h0.push (PySem.W.kdv_tup us), g0, d0, n0, o0⟩ :=
    I.laid (t' := n0) (fun b o z => Heap.get?_push_of_some _ z) (Nat.le_refl _) (show ObjOk X.prog X.w _ _ _ (.tup vs) from ⟨by rw [r.length]; exact hl, us, r, IsTup.new _ _⟩)
  have I2 := I1.write (t' := n0) (x := a) (e := a) (o := exr a C none h0.objs.size) (by rw [upd_ne (Ne.symm ne), e]; exact True.intro) (.inl rfl) (fun b u hb z => kp b u hb z) ⟨_, hx⟩ (exr_mk hx)
  exact k _ _ nb ne I2
/-- its first field -/
theorem exr_put (T : OexC X.K C) (I : Inv X pins σ H s) (e : H a = some (exr a C none t)) (hno : PySem.W.findIn X.K (.ref C) f = some none) (ry : RelV y u)
    (k : ∀ dx s', H dx = none → dx ≠ a → Inv X pins σ (upd (upd H dx (exd dx [(f, y)])) a (exr a C (some dx) t)) s' → Q () s') : wpAny (model X.prog X.w) A (setAttr (.ref a) f u) Q E s := by
  obtain ⟨nm, qn, N, bs, bm, sn, sub, ab, col, dd, k0, k1, k2, k3, k5, hC, hbm⟩ := T.cls
  have cl : PySem.W.clsIn X.K C = some { name := nm, bases := bs, mro := .ref C :: bm, ns := N, qualname := qn, hasDict := true, slotNames := sn, subclasses := sub, abstract := ab, collection := col, hasDel := false } := by unfold PySem.W.clsIn; rw [hC] <;> rfl
  have ho := exr_get I.hok e
  obtain ⟨h0, g0, d0, n0, o0⟩ := s
  refine PySem.W.set_plain I.kIn (ox := { cls := .ref C, dict := none, data := .fields #[.ref t, .none, .none, .none, .bool false, .none] }) (od := none) ⟨ho, rfl, rfl, trivial⟩ T.sa ?_
  refine HandSPX.exc_osa I.kIn ho cl (show HandSPX.refsVE (.ref C :: bm) = true from hbm) rfl hno (fun h' n1 dx kp le ne hx hn => ?_)
  have zd : H dx = none := I.hok.fresh le
  obtain ⟨z1, z2, z3, z4⟩ := @exr_no a C t none
  have ned : ∀ {b : Addr} {o : Obj}, h0.get? b = some o → b ≠ dx := fun {b o} z => Nat.ne_of_lt (Nat.lt_of_lt_of_le (Heap.lt_size z) le)
  have nea : ∀ {b : Addr}, H b = none → b ≠ a := fun {b} z y => by rw [y, e] at z; cases z
  have U : Un X.fs [] H (upd (upd H dx (exd dx [(f, y)])) a (exr a C (some dx) t)) h0 h' := {
    keep := fun b o z n _ _ => kp b o (nea n) z
    slot := fun b o z n _ _ => ⟨o.slots, kp b o (nea n) z⟩
    free := fun b o z n _ => by rw [upd_ne (nea n), upd_ne (ned z)]; exact n
    there := fun b o z _ => by
      by_cases y : b = a
      · exact ⟨_, by rw [y]; exact hx⟩
      · exact ⟨o, kp b o y z⟩
    tups := fun b xs z => by rw [upd_ne (at_ne e z (z2 _)), upd_ne (ne_of_none z zd)]; exact z
    frzs := fun b o v z => by rw [upd_ne (at_ne e z (z3 _ _)), upd_ne (ne_of_none z zd)]; exact z
    tbls := fun b ps z => ⟨#[], by rw [upd_ne (at_ne e z (z4 _)), upd_ne (ne_of_none z zd), z]; simp⟩ }
  refine k dx _ zd ne (I.un (t' := n1) U fun b o z => ?_)
  by_cases hb : b = a
  · rw [hb] at z ⊢
    rw [upd_same] at z
    cases z
    exact exr_mk hx
  rw [upd_ne hb] at z
  by_cases hd : b = dx
  · rw [hd] at z ⊢
    rw [upd_same] at z
    cases z
    exact exd_ok hn (relO_put (fs := []) ry fun g => True.intro)
  rw [upd_ne hd] at z
  refine (I.hok b o z).stay (fun c v hc y => kp c v ?_ y) (fun c hc => ?_) fun c xs hc => ?_
  · rcases hc with hc | hc
    · rw [hc]; exact hb
    · exact at_ne e hc (z1 _)
  · rw [upd_ne (at_ne e hc (z1 _)), upd_ne (ne_of_none hc zd)]; exact hc
  · rw [upd_ne (at_ne e hc (z2 _)), upd_ne (ne_of_none hc zd)]; exact hc
end
/-- the readings of such an __init__'s two statements -/
def tArg (K : PySem.W.Frag) (ta : TA) : TE := fun σ H Q => ta σ H fun vs H1 => ∃ (a C : Addr) (ws : List V), vs = .ref a :: ws ∧ ws.length ≤ 1000 ∧ OexC K C ∧ H1 a = some (exo a C none) ∧ ∀ b, H1 b = none → b ≠ a → Q .non (upd (upd H1 b (.tup ws)) a (exr a C none b))
def tPut (K : PySem.W.Frag) (f : Str) (to te : TE) : TS := fun D σ H => te σ H fun y H1 => to σ H1 fun x H2 => ∃ a C t : Addr, x = .ref a ∧ OexC K C ∧ PySem.W.findIn K (.ref C) f = some none ∧
  H2 a = some (exr a C none t) ∧ ∀ dx, H2 dx = none → dx ≠ a → D.nx σ (upd (upd H2 dx (exd dx [(f, y)])) a (exr a C (some dx) t))
section
variable {X : Cx} {e o : Expr} {es : List Expr} {ta : TA} {to te : TE} {b f x : Str} {CB : Addr} {p p' p1 p2 p3 p4 p5 p6 p7 p8 p9 p10 pos : Pos}
theorem pe_arg {pl : Sem Bool} (hg : Gl X b) (hm : X.mg b = some (.ref CB)) (B : OexB X.K CB) (ha : PA X (e :: es) ta) (hdb : (b == ("__debug__" : Str)) = false := by decide)
    (hc : eval (.Call (.Attribute (.Name b p1) "__init__" p2) (e :: es) [] pos) X.env = (do
      let ov ← eval (.Name b p1) X.env
      standAt p2.atName
      let (f, first) ← holding [ov] (getMethod ov "__init__" pl)
      callWith pos f first (backTo pos (starEach (e :: es) X.env)) (backToKw pos (keywordEach [] X.env))) := by rfl)
    (he : starEach (e :: es) X.env = (false, eval e X.env) :: starEach es X.env := by rfl) (hpl : (backTo pos (starEach es X.env)).any (·.1) = false := by rfl) :
    PE X (.Call (.Attribute (.Name b p1) "__init__" p2) (e :: es) [] pos) (tArg X.K ta) := by
  refine ⟨fun pins s σ H Q I h => PySem.W.methodCall_KW (ld_glob I hg hm ?_ hdb) hc⟩
  obtain ⟨m, fr⟩ := I.fr
  refine PySem.W.method_of_cls fr I.ok.mod.kin B.ga (PySem.W.cls_val fr I.ok.mod.kin B.ty B.rd B.fi (by decide +kernel) ?_)
  show wpAny _ _ (callWith pos (Value.builtin "ValueError.__init__") [] (backTo pos (starEach (e :: es) X.env)) []) _ _ _
  refine PyProof.Rows.callWith_method1 (thn (ha.run pos pins _ σ H _ (I.tok _) h) fun us s1 ⟨vs, H1, I1, r1, a, C, ws, ev, hl, T, ea, q⟩ => ?_) he hpl
  subst ev
  cases r1 with
  | @cons _ v0 _ ur ra rw' =>
    obtain rfl : v0 = Value.ref a := ra
    exact init_args T I1 ea rw' (by rw [← Paired.length rw', sizeLine_eq]; omega) fun z s' n1 n2 J => ⟨.non, _, J, rfl, q z n1 n2⟩
theorem ps_put (ho : PE X o to) (he : PE X e te) (hs : swapsWith e (some (.Attribute o f p')) pos.line X.env = pure false := by rfl) : PS X (.Assign [.Attribute o f p'] e pos) (tPut X.K f to te) :=
  ⟨fun pins s σ H D I h => plainObj_wpAny_Assign_Attribute (thn (he.run pins s σ H _ I h) fun v s1 ⟨y, H1, I1, r1, q1⟩ => thn (ho.run pins s1 σ H1 _ I1 q1) fun u s2 ⟨x, H2, I2, r2, a, C, t, ex, T, hno, ea, q⟩ => by
    subst ex
    obtain rfl : u = Value.ref a := r2
    exact exr_put T I2 ea hno r1 fun dx s' n1 n2 J => ⟨σ, _, J, q dx n1 n2⟩) hs⟩
/-- what such an __init__ does -/
def tExr (K : PySem.W.Frag) (f m : Str) : TS := fun D σ H => ∃ (a C : Addr) (v : V), σ[0]? = some (some (.ref a)) ∧ σ[1]? = some (some v) ∧ OexC K C ∧ PySem.W.findIn K (.ref C) f = some none ∧ H a = some (exo a C none) ∧
  ∀ b dx, H b = none → b ≠ a → H dx = none → dx ≠ a → dx ≠ b → D.nx σ (upd (upd (upd H b (.tup [.str m])) dx (exd dx [(f, v)])) a (exr a C (some dx) b))
theorem exr_norm {H : Hp} {a b dx : Addr} {o1 o2 o3 o4 : HO} (h1 : b ≠ a) (h2 : dx ≠ a) : upd (upd (upd (upd H b o1) a o2) dx o3) a o4 = upd (upd (upd H b o1) dx o3) a o4 := by
  funext c
  by_cases e : c = a
  · rw [e, upd_same, upd_same]
  · rw [upd_ne e, upd_ne e]
    by_cases e2 : c = dx
    · rw [e2, upd_same, upd_same]
    · rw [upd_ne e2, upd_ne e2, upd_ne e]
theorem pss_exr {txt : Str} {j} {pl : Sem Bool} (h0 : X.N[0]? = some ("self" : Str)) (h1 : X.N[1]? = some x) (v0 : Vis X.env.scope ("self" : Str)) (v1 : Vis X.env.scope x) (hg : Gl X b) (hm : X.mg b = some (.ref CB)) (B : OexB X.K CB) (d1 : (x == ("__debug__" : Str)) = false := by decide) (d2 : (x == ("__classdict__" : Str)) = false := by decide) (hdb : (b == ("__debug__" : Str)) = false := by decide)
    (hc : eval (.Call (.Attribute (.Name b p1) "__init__" p2) [.Name "self" p3, .Constant (.str txt) j p4] [] p5) X.env = (do
      let ov ← eval (.Name b p1) X.env
      standAt p2.atName
      let (f, first) ← holding [ov] (getMethod ov "__init__" pl)
      callWith p5 f first (backTo p5 (starEach [.Name "self" p3, .Constant (.str txt) j p4] X.env)) (backToKw p5 (keywordEach [] X.env))) := by rfl)
    (hs : swapsWith (.Call (.Attribute (.Name b p1) "__init__" p2) [.Name "self" p3, .Constant (.str txt) j p4] [] p5) none p6.line X.env = pure false := by rfl)
    (hs2 : swapsWith (.Name x p9) (some (.Attribute (.Name "self" p7) f p8)) p10.line X.env = pure false := by rfl) :
    PSs X [.Expr (.Call (.Attribute (.Name b p1) "__init__" p2) [.Name "self" p3, .Constant (.str txt) j p4] [] p5) p6, .Assign [.Attribute (.Name "self" p7) f p8] (.Name x p9) p10] (tExr X.K f txt) :=
  PSs.mk fun pins s σ H D I ⟨a, C, v, e0, e1, T, no, ea, q⟩ =>
    (pss_cons (ps_expr (pe_arg hg hm B (pa_cons (pe_var h0 v0 (by decide) (by decide)) (pa_cons pe_str pa_nil)) hdb hc) hs) (pss_one (ps_put (pe_var h0 v0 (by decide) (by decide)) (pe_var h1 v1 d1 d2) hs2))).run pins s σ H D I
      ⟨.ref a, e0, a, C, _, rfl, by simp, T, ea, fun z n1 n2 => ⟨v, e1, .ref a, e0, a, C, z, rfl, T, no, upd_same, fun dx n3 n4 => by
        rw [upd_ne n4] at n3
        have n5 : dx ≠ z := fun y => by rw [y, upd_same] at n3; cases n3
        rw [upd_ne n5] at n3
        rw [exr_norm n2 n4]
        exact q z dx n1 n2 n3 n4 n5⟩⟩
end
/-- its promise -/
def spExr (K : PySem.W.Frag) (f m : Str) : Sp := fun vs H Q E => ∃ (a C : Addr) (v : V), vs = [.ref a, v] ∧ OexC K C ∧ PySem.W.findIn K (.ref C) f = some none ∧ H a = some (exo a C none) ∧
  ∀ b dx, H b = none → b ≠ a → H dx = none → dx ≠ a → dx ≠ b → Q .non (upd (upd (upd H b (.tup [.str m])) dx (exd dx [(f, v)])) a (exr a C (some dx) b))
theorem ok_exr {P : Program} {w : World} {K : PySem.W.Frag} {mg : Str → Option Value} {base : Heap} {x qual n : Str} {params : Arguments} {body : List Stmt} {scope : Scope} {f : Addr} {fd : FuncData} {k : Nat} {fl m : Str} (F : FunD K x qual params body scope [] [] f fd) (S : FnScope ["self", n] ["self", n] scope)
    (hb : ∀ (cdv : Value) (A : Around) (outer : List Env) (s : Shared) (H : Hp) (E : XK), PSs (cxOf (L2N.CX P w) P w K mg base ["self", n] qual scope f cdv A outer s H E) body (tExr K fl m)) : FnOk P w K mg base (L2N.CX P w) (k + 1) f fd ["self", n] (spExr K fl m) :=
  F.ok S (fun vs H Q E ⟨a, C, v, e, _⟩ => by rw [e]; rfl) fun cdv A outer s H vs Q E hr ⟨a, C, v, e, T, no, ea, q⟩ =>
    ⟨_, hb cdv A outer s H E, a, C, v, by rw [e]; rfl, by rw [e]; rfl, T, no, ea, q⟩
/-- C(e): the thing itself -/
def tMkX (C : Addr) (sp : Sp) (ta : TA) : TE := fun σ H Q => ta σ H fun vs H1 => vs.length ≤ 1000 ∧ ∀ a, H1 a = none → sp (.ref a :: vs) (upd H1 a (exo a C none)) (fun v H2 => v = .non ∧ Q (.ref a) H2) (fun _ _ _ => False)
theorem pe_mkx {X : Cx} {CX : CXT} {x : Str} {e : Expr} {es : List Expr} {ta : TA} {p pos : Pos} {C g : Addr} {k : Nat} {fd : FuncData} {ps : List Str} {sp : Sp} (T : OexC X.K C) (hI : PySem.W.findIn X.K (.ref C) "__init__" = some (some (.ref g))) (hT : PySem.W.typeIn X.K (.ref g) = some (.type "function"))
    (F1 : FnOk X.prog X.w X.K X.mg X.base CX k g fd ps sp) (hr : Room (k + 1) X.A) (hb : Binds X.K fd ps []) (hx : Passes CX X (fun _ _ _ => False)) (hg : Gl X x) (hm : X.mg x = some (.ref C)) (ha : PA X (e :: es) ta)
    (hdb : (x == ("__debug__" : Str)) = false := by decide) (he : starEach (e :: es) X.env = (false, eval e X.env) :: starEach es X.env := by rfl) (hpl : (backTo pos (starEach es X.env)).any (·.1) = false := by rfl) : PE X (.Call (.Name x p) (e :: es) [] pos) (tMkX C sp ta) := by
  refine ⟨fun pins s σ H Q I h => ?_⟩
  obtain ⟨nm, q, N, bs, bm, sn, sub, ab, col, dd, k0, k1, k2, k3, k5, hC, hbm⟩ := T.cls
  refine wpAny_Call_Name_kw (ld_glob I hg hm (PySem.W.callWith_K (h₀ := X.base) I.ok.mod.kin T.kC (thn (ha.run pos pins s σ H _ I h) fun us z ⟨vs, G, J, rv, hz, q1⟩ => ⟨J.kIn, ?_⟩) he hpl) hdb)
  show wpAny _ _ (call (.ref C) us) _ _ _
  obtain ⟨h0, gs, dr, tk, os⟩ := z
  obtain ⟨a, ea0⟩ : ∃ a, a = h0.objs.size + 1 := ⟨_, rfl⟩
  have la : h0.objs.size ≤ a := by omega
  have hq := q1 a (J.hok.fresh la)
  have up : ∀ b o, h0.get? b = some o → ((h0.push (PySem.W.kdv_tup us)).push (HandSPX.excO C h0.objs.size)).get? b = some o := fun b o e => Heap.get?_push_of_some _ (Heap.get?_push_of_some _ e)
  have at_ : ((h0.push (PySem.W.kdv_tup us)).push (HandSPX.excO C h0.objs.size)).get? a = some (HandSPX.excO C h0.objs.size) := by rw [ea0]; heap_get
  have J2 : Inv X pins σ (upd G a (exo a C none)) ⟨(h0.push (PySem.W.kdv_tup us)).push (HandSPX.excO C h0.objs.size), gs, dr, tk, os⟩ := J.laid (t' := tk) (a := a) (o := exo a C none) up la (exo_ok at_)
  have rv2 : Vals (V.ref a :: vs) (Value.ref a :: us) := .cons rfl rv
  have ln : (Value.ref a :: us).length = ps.length := by rw [← rv2.length]; exact F1.len _ _ _ _ hq
  have lu : us.length ≤ sizeLine := by rw [← Paired.length rv, sizeLine_eq]; omega
  have b2 := hb _ (Value.ref a :: us) J2.kIn (by rw [List.append_nil]; exact ln)
  rw [List.append_nil] at b2
  subst ea0
  refine wpAny_call (HandSPX.call_own F.excBase_ValueError (fun Y => HandSPX.refsVE_contains Y bm hbm) (J.kIn _ _ hC) (PySem.W.looks_findIn J.kIn hI) (fun self => PySem.W.bind_fn J.kIn self hT) lu (codeAny_mono (F1.run _ X.stack _ _ ⟨Value.ref (h0.objs.size + 1) :: us, []⟩ _ _ _ (fun _ _ _ => False) (hr.make C us []) (J2.env0.make C us []) b2 rv2 hq) fun r s' w => ?_))
  cases r with
  | error y => exact hx pins σ _ _ y s' J2 w
  | ok fl =>
    cases fl with
    | ret u =>
      obtain ⟨v, G2, J3, rv, ev, q3⟩ := J2.after w
      subst ev
      exact ⟨rv, ⟨V.ref (h0.objs.size + 1), G2, J3, rfl, q3⟩⟩
    | next => exact w.elim
    | brk => exact w.elim
    | cont => exact w.elim
end L2
set_option Elab.async false
set_option linter.all false
set_option maxRecDepth 100000
set_option maxHeartbeats 1000000
namespace L2
open PySem PySem.Spec PyProof.Rows
section
variable {prog : Program} {w : World} {M : Model} {A : Around} {E : Value → Shared → Prop} {s : Shared} {K : PySem.W.Frag} {C e t0 : Addr}
open Builtin Builtin.BaseException Builtin.Exceptions
theorem name_whole {n : String} {cd : ClassData} {Q : String → Shared → Prop} (x : ExcC K C e t0 s.heap) (hc : PySem.W.clsIn K C = some cd) (q : Q cd.name.toString s) : wpAny M A (typeNameOfWhole (.ref e)) Q E s := by
  unfold typeNameOfWhole shownTypeOf
  refine wpAny_bind (wpAny_bind (x.LT.here ?_))
  rw [if_neg (show ¬ (Value.ref C == Value.type "builtin_function_or_method") = true from Bool.false_ne_true)]
  refine wpAny_pure ?_
  show wpAny _ _ (typeNameWhole (.ref C)) _ _ _
  unfold typeNameWhole
  have L : PySem.W.Looks M s.heap (classData C) cd := PySem.W.looks_clsIn x.1 hc
  exact wpAny_bind (L.here (wpAny_pure q))
theorem repr_in {m : Str} {tk : Tok} {cd : ClassData} {Q : Fin → Shared → Prop} (x : ExcC K C e t0 s.heap) (ht : s.heap.TupAt t0 [.str m tk]) (hc : PySem.W.clsIn K C = some cd)
    (hq : Q (.done (.ret (.str (excReprHead cd.name.toString ++ "(" ++ reprText m ++ ")") (s.toks + 1)))) { s with toks := s.toks + 1 + 1 }) (hsz : (excReprHead cd.name.toString ++ "(" ++ reprText m ++ ")").length ≤ sizeLine) :
    wpAny (model prog w) A (Builtin.«BaseException.__repr__» ⟨[.ref e], []⟩) Q E s := by
  have e1 : (Str.ofString ((cd.name.toString.cutAt '.').getLastD "") ++ Str.ofString "(" ++ reprText m ++ Str.ofString ")").length ≤ sizeLine := hsz
  have hsz2 : (Str.ofString ((cd.name.toString.cutAt '.').getLastD "") ++ Str.ofString "(" ++ reprText m ++ Str.ofString ")").length ≤ sizeLine := e1
  have eP : (Str.ofString "(").length = 1 := by rw [PySem.ofString_length]; rfl
  rw [strLen_append, strLen_append, strLen_append, eP] at e1
  have hsz1 : (reprText m).length ≤ sizeLine := by omega
  have hpile : 0 + ((Str.ofString ((cd.name.toString.cutAt '.').getLastD "")).length + 1) ≤ sizeLine := by omega
  show wpAny (model prog w) A (Builtin.bexcReprAt 0 ⟨[.ref e], []⟩) Q E s
  unfold Builtin.bexcReprAt
  repeat (first | with_reducible refine name_whole (n := "") x hc ?_ | with_reducible refine bexcArgs_C x ht ?_ | rw [pyReprUnder_leaf (v := .str m tk) hpile (by intro a; nofun)] | with_reducible refine wpAny_pyRepr_str ?_ | wp_step)
  exact hq
theorem repr_call {m : Str} {tk : Tok} {cd : ClassData} {Q : Value → Shared → Prop} (hu : A.in1.units < cLine) (x : ExcC K C e t0 s.heap) (ht : s.heap.TupAt t0 [.str m tk]) (hc : PySem.W.clsIn K C = some cd)
    (hs : PySem.W.findIn K (.ref C) "__repr__" = some (some (.builtin "BaseException.__repr__"))) (hB : PySem.W.subIn K (.ref C) (.type "BaseException") = some true)
    (hq : Q (.str (excReprHead cd.name.toString ++ "(" ++ reprText m ++ ")") (s.toks + 1)) { s with toks := s.toks + 1 + 1 }) (hsz : (excReprHead cd.name.toString ++ "(" ++ reprText m ++ ")").length ≤ sizeLine) :
    wpAny (model prog w) A (call (.builtin "repr") [.ref e]) Q E s := by
  have hf : PySem.W.Looks (model prog w) s.heap (typeLookup (.ref C) "__repr__") (some (.builtin "BaseException.__repr__")) := PySem.W.looks_findIn x.1 hs
  refine Calls.call_function_entry PySem.F.kind_repr PySem.F.plain_repr PySem.F.entry_repr (PySem.F.args_repr1 _) ?_
  unfold Builtin.«repr»
  refine wpAny_bind (m := oneArg "repr" _) (wpAny_pure ?_)
  refine wpAny_bind (wpAny_cRoomFor hu ?_)
  refine wpAny_bind (wpAny_bind (x.LT.here (hf.here ?_)))
  rw [if_neg (by simp)]
  have go : wpAny (model prog w) A.in1 (call (.builtin "BaseException.__repr__") ([.ref e] ++ []) >>= fun v => pure (some v)) (fun r s' => r = some (.str (excReprHead cd.name.toString ++ "(" ++ reprText m ++ ")") (s.toks + 1)) ∧ s' = { s with toks := s.toks + 1 + 1 }) E s := by
    refine wpAny_bind (wpAny_call (codeAny_call_builtin F.excStr_Exception.repr.plain F.entry_bexc_repr (@PySem.W.check_slot (model prog w) _ _ s "BaseException.__repr__" "BaseException" "__repr__" (.ref e) [] [] _ (by decide +kernel) (by decide +kernel) (x.LI hB) (F.args_bexc_repr _) ?_)))
    exact wpAny_mono (repr_in (Q := fun fin s' => fin = .done (.ret (.str (excReprHead cd.name.toString ++ "(" ++ reprText m ++ ")") (s.toks + 1))) ∧ s' = { s with toks := s.toks + 1 + 1 }) x ht hc ⟨rfl, rfl⟩ hsz)
      (fun fin s' hv => by obtain ⟨rfl, rfl⟩ := hv; exact wpAny_pure ⟨rfl, rfl⟩) fun _ _ z => z
  have fin : wpAny (model prog w) A.in1 (callSpecialIfBound? (.ref e) (Str.ofString "__repr__")) (fun r s' => r = some (.str (excReprHead cd.name.toString ++ "(" ++ reprText m ++ ")") (s.toks + 1)) ∧ s' = { s with toks := s.toks + 1 + 1 }) E s := by
    simp only [callSpecialIfBound?, bindSpecialIfBound?]
    refine wpAny_holding (wpAny_bind (wpAny_bind (wpAny_bind (x.LT.here (hf.here ?_)))))
    simp only [F.excStr_Exception.repr.bind]
    refine wpAny_bind (wpAny_askSetting (wpAny_ite ?_))
    split
    · exact wpAny_bind (wpAny_pure (wpAny_pure go))
    · exact wpAny_tryCatch (wpAny_bind (wpAny_pure (wpAny_pure go)))
  refine wpAny_bind (m := callSpecialIfBound? (.ref e) (Str.ofString "__repr__") _) (wpAny_mono fin (fun r s' z => ?_) fun _ _ y => y)
  obtain ⟨rfl, rfl⟩ := z
  refine wpAny_bind (wpAny_isInstance (typeIs_str _ _ _) isSubtype_str_str ?_)
  first
    | exact wpAny_pure ⟨_, rfl, hq⟩
    | (rw [if_pos rfl]; exact wpAny_pure ⟨_, rfl, hq⟩)
    | (simp only [if_true]; exact wpAny_pure ⟨_, rfl, hq⟩)
end
end L2
namespace L3
open PySem PySem.Spec PyProof.Rows L2
/-- what is asked of the class of an exception that stands as a thing -/
structure ExcI (K : PySem.W.Frag) (C : Addr) : Prop extends XfC K C where
  cl : (PySem.W.clsIn K C).isSome = true
  ca : PySem.W.findIn K (.ref C) "__class__" = some (some (.builtin "object.__class__"))
  cg : PySem.W.specialIn K (.builtin "object.__class__") "__get__" = some (some (.builtin "getset_descriptor.__get__"))
  ct : PySem.W.takesIn K (.builtin "object.__class__") = some true
  cm : PySem.W.mroIn K C (.type "object") = some true
def excIB (K : PySem.W.Frag) (C : Addr) : Bool := xfB K C && ((PySem.W.clsIn K C).isSome && (decide (PySem.W.findIn K (.ref C) "__class__" = some (some (.builtin "object.__class__"))) &&
  (decide (PySem.W.specialIn K (.builtin "object.__class__") "__get__" = some (some (.builtin "getset_descriptor.__get__"))) && (decide (PySem.W.takesIn K (.builtin "object.__class__") = some true) && decide (PySem.W.mroIn K C (.type "object") = some true)))))
theorem excIB_ok {K : PySem.W.Frag} {C : Addr} (h : excIB K C = true) : ExcI K C := by
  unfold excIB at h
  simp only [Bool.and_eq_true, decide_eq_true_eq] at h
  obtain ⟨h1, h2, h3, h4, h5, h6⟩ := h
  exact { xfB_ok h1 with cl := h2, ca := h3, cg := h4, ct := h5, cm := h6 }
section
variable {X : Cx} {pins : List (Addr × Obj)} {σ : St2} {H : Hp} {s : Shared} {a C dx : Addr} {od t : Option Addr} {o : HO} {fs : List (Str × V)}
theorem IsX.obj (i : IsX a C od t o) (ok : HOk X.prog X.w H s.heap) (e : H a = some o) : ∃ (oe : Obj) (vs : Array Value), s.heap.get? a = some oe ∧ oe.cls = .ref C ∧ oe.dict = od ∧ oe.data = .fields vs ∧ ∀ b, t = some b → vs[0]? = some (.ref b) := by
  obtain ⟨φ, rfl, k⟩ := i
  obtain ⟨z, _⟩ := (show ObjOk X.prog X.w H s.heap a (.ext φ) from ok a _ e)
  exact k _ z
theorem IsXd.ns (i : IsXd dx fs o) (ok : HOk X.prog X.w H s.heap) (e : H dx = some o) : ∃ mA, s.heap.Ns1 dx mA ∧ ∀ f, RelO (fs.lookup f) (mA f) := by
  rcases i with rfl | rfl
  · exact ok dx _ e
  · exact exd_at ok e
/-- the object as the kit's rules want it -/
theorem IsX.inst (i : IsX a C od t o) (I : Inv X pins σ H s) (e : H a = some o) (hd : ∀ dx, od = some dx → ∃ u fs, H dx = some u ∧ IsXd dx fs u) :
    ∃ (oe : Obj) (vs : Array Value) (ob : Option Obj), PySem.W.InstAt s.heap a oe C ob ∧ oe.data = .fields vs ∧ (∀ b, t = some b → vs[0]? = some (.ref b)) ∧
      ∀ dx fs u, od = some dx → H dx = some u → IsXd dx fs u → ∃ (oo : Obj) (mA : Str → Option Value), ob = some oo ∧ (∀ n, PySem.W.lookIn n oo = some (mA n)) ∧ ∀ f, RelO (fs.lookup f) (mA f) := by
  obtain ⟨oe, vs, h1, h2, h3, h4, h5⟩ := i.obj I.hok e
  have nc : PySem.W.notCls oe = true := by unfold PySem.W.notCls; rw [h4] <;> rfl
  cases od with
  | none => exact ⟨oe, vs, none, ⟨h1, h2, nc, by rw [h3]; trivial⟩, h4, h5, fun _ _ _ z => nomatch z⟩
  | some dx =>
    obtain ⟨u, fs, e1, e2⟩ := hd dx rfl
    obtain ⟨mA, hns, _⟩ := e2.ns I.hok e1
    obtain ⟨oo, ho, hl⟩ := lookIn_ns hns
    refine ⟨oe, vs, some oo, ⟨h1, h2, nc, by rw [h3]; exact ho⟩, h4, h5, fun dx' fs' u' z e1' e2' => ?_⟩
    cases z
    obtain ⟨mB, hnb, hr⟩ := e2'.ns I.hok e1'
    obtain ⟨o2, ho2, hl2⟩ := lookIn_ns hnb
    rw [ho] at ho2
    cases ho2
    exact ⟨oo, mB, rfl, hl2, hr⟩
end
end L3
set_option Elab.async false
set_option linter.all false
set_option maxRecDepth 100000
set_option maxHeartbeats 1000000
namespace L2
open PySem PySem.Spec PyProof.Rows
/-- a dict's entries by data: keys of two kinds, values without dicts -/
def DpKV (K : PySem.W.Frag) (H : Hp) (kvs : List (Key × V)) (ps : List (PyData × PyData)) : Prop := Paired (fun (q : Key × V) (p : PyData × PyData) => p.1 = kPy q.1 ∧ Dp K H q.2 p.2 ∧ p.2.hasDict = false) kvs ps
theorem kPy_dict (k : Key) : (kPy k).hasDict = false := by cases k <;> rfl
section
variable {X : Cx} {pins : List (Addr × Obj)} {σ : St} {H : Hp} {s : Shared}
theorem dp_entries (I : Inv X pins σ H s) : ∀ {es : List DictEntry} {vs : List (Key × Value)} {kvs : List (Key × V)} {ps : List (PyData × PyData)}, Pairs (mixKind X.prog X.w) es vs → KV kvs vs → DpKV X.K H kvs ps →
    ReadsAll s.heap (es.map (·.key)) (ps.map (·.1)) [] ∧ (∃ bs, ReadsAll s.heap (es.map (·.val)) (ps.map (·.2)) bs) ∧ PyData.hasDictAll (ps.map (·.1)) = false ∧ PyData.hasDictAll (ps.map (·.2)) = false
  | _, _, _, _, .nil, .nil, .nil => ⟨.nil, ⟨[], .nil⟩, rfl, rfl⟩
  | _, _, _, _, .cons h1 h2 t, .cons r rs, .cons f fs => by
    obtain ⟨a, ⟨bs, b⟩, c, d⟩ := dp_entries I t rs fs
    obtain ⟨cs, z⟩ := Dp.reads I _ _ _ f.2.1 r.2
    refine ⟨ReadsAll.cons (as := []) (bs := []) ?_ a, ⟨cs ++ bs, ReadsAll.cons (as := cs) (bs := bs) ?_ b⟩, ?_, ?_⟩
    · dsimp only
      rw [f.1, r.1]
      exact key_reads h1
    · dsimp only
      rw [h2]
      exact z
    · rw [List.map_cons, PyData.hasDictAll, f.1, kPy_dict, c]; rfl
    · rw [List.map_cons, PyData.hasDictAll, f.2.2, d]; rfl
end
section
variable {X : Cx}
def rReprP (K : PySem.W.Frag) : List V → Hp → VK → Prop := fun xs H Q => ∃ a kvs ps, xs = [.ref a] ∧ Rd H a (.dK kvs) ∧ DpKV K H kvs ps ∧ (PyData.dict ps).showable = true ∧ (PyData.dict ps).depth ≤ 64 ∧ (PyData.dict ps).shown.length ≤ sizeLine ∧ Q (.str (PyData.dict ps).shown) H
theorem call_reprP (hgd : X.A.guards = some []) (hu : X.A.units + 65 < cLine) : CallR X (.builtin "repr") (rReprP X.K) := by
  intro pins s σ H xs us Q I r h
  obtain ⟨a, kvs, ps, rfl, hd, hf, hs, hdp, hz, q⟩ := h
  obtain ⟨u, rfl, ru⟩ := vals1 r
  cases ru
  obtain ⟨hz0, hs0, vs, kv, o, es, ep, ho, hex, hdat, _, hp, _⟩ := dk_rd I.hok hd
  obtain ⟨r1, ⟨bs, r2⟩, d1, d2⟩ := dp_entries I hp kv hf
  have hz2 : (dictText (PyData.shownKv ps)).length ≤ sizeLine := by simpa only [PyData.shown] using hz
  obtain ⟨s1, s2⟩ := PyData.showableKv_split ps (by simpa [PyData.showable] using hs)
  obtain ⟨c1, e1, k1⟩ := ReprAllK.of_readsAll (prog := X.prog) (w := X.w) r1 s1 (fun y => by rw [d1] at y; cases y) fun t ht => by
    obtain ⟨p, hp', hl⟩ := PyData.shownKv_key_le ps t ht
    exact Nat.le_trans hl (Nat.le_trans (dictText_mem_le hp') hz2)
  obtain ⟨c2, e2, k2⟩ := ReprAllK.of_readsAll (prog := X.prog) (w := X.w) r2 s2 (fun y => by rw [d2] at y; cases y) fun t ht => by
    obtain ⟨p, hp', hl⟩ := PyData.shownKv_val_le ps t ht
    exact Nat.le_trans hl (Nat.le_trans (dictText_mem_le hp') hz2)
  have am : ReadAtMost s.heap (PyData.depthKv ps) (c1 ++ c2) := (e1.mono (PyData.depthAll_keys_le ps)).append (e2.mono (PyData.depthAll_vals_le ps))
  have rr : Reads s.heap (.ref a) (.dict ps) (a :: [] ++ bs) := .dict ho hex.1 hdat r1 r2
  have no : a ∉ c1 ++ c2 := not_mem_of_deeper rr (by simp only [PyData.depth]; omega) am
  have en := ReprEntriesK.of_two es.toList _ _ (k1.more_le (fun b hb => List.mem_append_left c2 hb) (PyData.depthAll_keys_le ps)) (k2.more_le (fun b hb => List.mem_append_right c1 hb) (PyData.depthAll_vals_le ps))
  rw [← PyData.shownKv_eq] at en
  have hdd : PyData.depthKv ps + 1 ≤ 64 := by simpa only [PyData.depth] using hdp
  refine call_repr_slot (T := "dict") (by omega) ⟨o, ho, hex.1⟩ F.slot_dict_repr (call_dict_reprK (A := X.A.in1) (g := []) ho hex.1 hdat hs0 no en hgd (fun b _ => Clear.nil b) (by show X.A.units + 1 + _ < cLine; omega) (fun _ _ e => e) (fun h' u tk kp => ⟨_, _, rfl, ?_⟩) hz2)
  exact ⟨.str (PyData.dict ps).shown, H, I.kept kp, ⟨u, by simp only [PyData.shown]⟩, q⟩
end
end L2
set_option Elab.async false
set_option linter.all false
set_option maxRecDepth 100000
set_option maxHeartbeats 2000000
namespace L2
open PySem PySem.Spec PyProof.Rows
section
variable {M : Model} {A : Around} {E : Value → Shared → Prop} {h : Heap} {g : Array GenState} {d : Drawn} {t : Nat} {os : OsState}
variable {nm q : Str} {C N : Addr} {bs bm bmB : List Value} {hdct : Bool} {sn : List Str} {sub : List Value} {ab : Bool} {col : Option Bool} {dd : Option Addr} {k0 k1 k2 k3 k5 : Option Value} {B newId initId : String} {us : List Value} {kw : List (Str × Value)}
theorem kw_check (F : ExcBaseFacts B newId initId bmB) (hT : ∀ X : String, bm.contains (.type X) = bmB.contains (.type X)) {Q : Unit → Shared → Prop}
    (hc : h.get? C = some (excClassObj nm q C N bs bm hdct sn sub ab col dd k0 k1 k2 k3 k5 newId)) (k : Q () ⟨h, g, d, t, os⟩) : wpAny M A (checkBuiltinCall newId ⟨.ref C :: us, kw⟩) Q E ⟨h, g, d, t, os⟩ := by
  have z : (Value.ref C :: bm).contains (.type B) = true := by rw [List.contains_cons, hT, F.hasB, Bool.or_true]
  have y := F.noStar
  simp only [checkBuiltinCall, F.newKind, F.newSplit, F.newRow]
  repeat (first | refine wpAny_loadPart_at hc ?_ | (refine wpAny_isSubtype_exc hc ?_; rw [z]) | refine wpAny_staticBase_exc hc ?_ | refine wpAny_madeBy_exc hc ?_ | simp only [bne_self_eq_false, Bool.false_eq_true, if_false] | wp_step)
  exact k
end
section
variable {prog : Program} {w : World} {A : Around} {E : Value → Shared → Prop} {R : Result → Shared → Prop} {h : Heap} {g : Array GenState} {d : Drawn} {t : Nat} {os : OsState}
variable {nm q : Str} {C N : Addr} {bs bm bmB : List Value} {hdct : Bool} {sn : List Str} {sub : List Value} {ab : Bool} {col : Option Bool} {dd : Option Addr} {k0 k1 k2 k3 k5 : Option Value} {B newId initId : String} {us : List Value} {kw : List (Str × Value)}
theorem kw_new (F : ExcBaseFacts B newId initId bmB) (hT : ∀ X : String, bm.contains (.type X) = bmB.contains (.type X))
    (hc : h.get? C = some (excClassObj nm q C N bs bm hdct sn sub ab col dd k0 k1 k2 k3 k5 newId))
    (k : R (.ok (.ret (.ref (h.objs.size + 1)))) ⟨(h.push (PySem.W.kdv_tup us)).push (HandSPX.excO C h.objs.size), g, d, t, os⟩) (hu : us.length ≤ sizeLine) :
    codeAny (model prog w) A (.builtin newId ⟨.ref C :: us, kw⟩) R ⟨h, g, d, t, os⟩ := by
  have y := F.ends
  have z1 : (Value.ref C :: bm).contains (.type B) = true := by rw [List.contains_cons, hT, F.hasB, Bool.or_true]
  have z2 : (Value.ref C :: bm).contains (.type "AttributeError") = false := by rw [List.contains_cons, hT, F.noAttr]; rfl
  have z3 : (Value.ref C :: bm).contains (.type "NameError") = false := by rw [List.contains_cons, hT, F.noName]; rfl
  refine codeAny_builtinAt F.entry ?_
  unfold Builtin.«BaseException.__new__»
  refine PySem.wpAt_bind ?_
  show PySem.wpAt _ _ _ (stack >>= _) _ _ _
  refine PySem.wpAt_bind (PySem.wpAt_stack fun p below => PySem.wpAt_of_wpAny ?_)
  wp_walk
  refine PySem.wpAt_of_wpAny ?_
  rw [F.owner]
  repeat (first | with_reducible refine wpAny_madeHere_exc F.canon hc ?_ | with_reducible refine wpAny_loadPart_at hc ?_ | (with_reducible refine wpAny_isSubtype_exc hc ?_; first | rw [z1] | rw [z2] | rw [z3]) | wp_step)
  show R _ _
  rw [Heap.size_push]
  exact k
theorem kw_made (F : ExcBaseFacts B newId initId bmB) (hT : ∀ X : String, bm.contains (.type X) = bmB.contains (.type X)) {fI : Addr} {Q : Fin → Shared → Prop}
    (hc : h.get? C = some (excClassObj nm q C N bs bm hdct sn sub ab col dd k0 k1 k2 k3 k5 newId))
    (hi : PySem.W.Looks (model prog w) h (typeLookup (.ref C) "__init__") (some (.ref fI))) (hb : ∀ y, PySem.W.Looks (model prog w) h (bindSpecial (.ref fI) y) (.ref fI, [y])) (hu : us.length ≤ sizeLine)
    (k : codeAny (model prog w) A (.call (.ref fI) ⟨.ref (h.objs.size + 1) :: us, kw⟩)
      (fun r s' => match r with | .ok (.ret v) => v = .none ∧ Q (.done (.ret (.ref (h.objs.size + 1)))) s' | .ok _ => False | .error e => E e s')
      ⟨(h.push (PySem.W.kdv_tup us)).push (HandSPX.excO C h.objs.size), g, d, t, os⟩) :
    wpAny (model prog w) A (Builtin.«type.__call__» ⟨.ref C :: us, kw⟩) Q E ⟨h, g, d, t, os⟩ := by
  repeat (first | with_reducible refine wpAny_loadPart_at hc ?_ | with_reducible refine wpAny_madeBy_exc hc ?_ | wp_step)
  refine codeAny_call_builtin_code (Code.quiet_builtin _ F.quiet) (kw_check F hT hc ?_)
  refine kw_new F hT hc ?_ hu
  show wpAny _ _ _ _ _ _
  have up : ∀ b o, h.get? b = some o → ((h.push (PySem.W.kdv_tup us)).push (HandSPX.excO C h.objs.size)).get? b = some o := fun b o e => Heap.get?_push_of_some _ (Heap.get?_push_of_some _ e)
  have hc1 := up _ _ hc
  have at_ : ((h.push (PySem.W.kdv_tup us)).push (HandSPX.excO C h.objs.size)).get? (h.objs.size + 1) = some (HandSPX.excO C h.objs.size) := by heap_get
  have z : (Value.ref C :: bm).contains (.ref C) = true := by simp
  have i1 := hi.keeps up
  have b1 := (hb (.ref (h.objs.size + 1))).keeps up
  unfold isInstance
  repeat (first | with_reducible refine wpAny_loadPart_at at_ ?_ | (with_reducible refine wpAny_isSubtype_exc hc1 ?_; rw [z]) | wp_step)
  show wpAny _ _ (typeLookup (.ref C) _) _ _ _
  refine i1.at ?_
  refine wpAny_holding (wpAny_bind (b1.at ?_))
  refine wpAny_bind (wpAny_call (codeAny_mono k fun r s' z => ?_))
  rcases r with e | (v | _ | _ | _) <;> first | exact z | exact z.elim | skip
  obtain ⟨rfl, z⟩ := z
  first
    | exact wpAny_pure (wpAny_pure z)
    | (wp_walk; exact z)
theorem kw_call (F : ExcBaseFacts B newId initId bmB) (hT : ∀ X : String, bm.contains (.type X) = bmB.contains (.type X)) {fI : Addr}
    (hc : h.get? C = some (excClassObj nm q C N bs bm hdct sn sub ab col dd k0 k1 k2 k3 k5 newId))
    (hi : PySem.W.Looks (model prog w) h (typeLookup (.ref C) "__init__") (some (.ref fI))) (hb : ∀ y, PySem.W.Looks (model prog w) h (bindSpecial (.ref fI) y) (.ref fI, [y])) (hu : us.length ≤ sizeLine)
    (k : codeAny (model prog w) (A.under (.builtin "type.__call__" ⟨.ref C :: us, kw⟩)) (.call (.ref fI) ⟨.ref (h.objs.size + 1) :: us, kw⟩) (PySem.W.InitBack (h.objs.size + 1) R)
      ⟨(h.push (PySem.W.kdv_tup us)).push (HandSPX.excO C h.objs.size), g, d, t, os⟩) :
    codeAny (model prog w) A (.call (.ref C) ⟨us, kw⟩) R ⟨h, g, d, t, os⟩ := by
  have y1 := tc_lookup
  have y2 := tc_bind (.ref C)
  have y3 : (⟨h, g, d, t, os⟩ : Shared).TypeIs (.ref C) "type" := ⟨_, hc, rfl⟩
  refine codeAny_of_tree ?_
  show wpAny _ _ (callAny (.ref C) _) _ _ _
  repeat (any_goals (first | assumption | with_reducible refine wpAny_loadPart_at hc ?_ | wp_step))
  refine ⟨rfl, ?_⟩
  refine codeAny_call_builtin_at (Code.quiet_builtin _ (by decide +kernel)) entry_typeCall (wpAny_check_type_call_sub hc (kw_made F hT hc hi hb hu ?_))
  refine codeAny_mono k fun r s' z => ?_
  rcases r with e | (v | _ | _ | _) <;> exact z
end
section
variable {X : Cx} {CX : CXT} {x : Str} {p pos : Pos} {C f : Addr} {k : Nat} {fd : FuncData} {ps ks : List Str} {sp : Sp} {kws : List Keyword} {tk : TA} {g : List Value → List Value → List Value} {gV : List V → List V → List V}
/-- C(f=e): the thing itself -/
def tMkK (C : Addr) (m : Nat) (sp : Sp) (gV : List V → List V → List V) (tk : TA) : TE := fun σ H Q => tk σ H fun zs H1 => zs.length = m ∧ ∀ a, H1 a = none → sp (gV [.ref a] zs) (upd H1 a (exo a C none)) (fun v H2 => v = .non ∧ Q (.ref a) H2) (fun _ _ _ => False)
theorem run_mkk {pins : List (Addr × Obj)} {σ : St} {H : Hp} {s : Shared} {Q : Value → Shared → Prop} {P : Addr → V → Hp → Prop} {zs : List V} {ws : List Value} (T : OexC X.K C) (hI : PySem.W.findIn X.K (.ref C) "__init__" = some (some (.ref f))) (hT : PySem.W.typeIn X.K (.ref f) = some (.type "function"))
    (F1 : FnOk X.prog X.w X.K X.mg X.base CX k f fd ps sp) (hr : Room (k + 1) X.A) (hb : KBn X.K fd ps 1 ks g gV) (hx : Passes CX X (fun _ _ _ => False)) (J : Inv X pins σ H s) (rz : Vals zs ws) (l2 : zs.length = ks.length)
    (h : ∀ a, H a = none → sp (gV [.ref a] zs) (upd H a (exo a C none)) (P a) (fun _ _ _ => False))
    (out : ∀ (a : Addr) (b : Heap) (s' : Shared) (H1 : Hp), H a = none → Inv X pins σ (upd H a (exo a C none)) ⟨b, s.gens, s.drawn, s.toks, s.os⟩ → (∀ c o, s.heap.get? c = some o → b.get? c = some o) → s.heap.objs.size ≤ a →
      (∃ u v, CR CX X.stack X.prog X.w (upd H a (exo a C none)) ⟨b, s.gens, s.drawn, s.toks, s.os⟩ (P a) (fun _ _ _ => False) (.ok (.ret u)) s' ∧ v = u) → ∀ u, CR CX X.stack X.prog X.w (upd H a (exo a C none)) ⟨b, s.gens, s.drawn, s.toks, s.os⟩ (P a) (fun _ _ _ => False) (.ok (.ret u)) s' → u = .none ∧ Q (.ref a) s') :
    wpAny (model X.prog X.w) X.A (call (.ref C) [] (ks.zip ws)) Q X.xe s := by
  obtain ⟨nm, q, N, bs, bm, sn, sub, ab, col, dd, k0, k1, k2, k3, k5, hC, hbm⟩ := T.cls
  obtain ⟨h0, gs, dr, n0, os⟩ := s
  obtain ⟨a, ea0⟩ : ∃ a, a = h0.objs.size + 1 := ⟨_, rfl⟩
  have la : h0.objs.size ≤ a := by omega
  have hq := h a (J.hok.fresh la)
  have up : ∀ b o, h0.get? b = some o → ((h0.push (PySem.W.kdv_tup [])).push (HandSPX.excO C h0.objs.size)).get? b = some o := fun b o e => Heap.get?_push_of_some _ (Heap.get?_push_of_some _ e)
  have at_ : ((h0.push (PySem.W.kdv_tup [])).push (HandSPX.excO C h0.objs.size)).get? a = some (HandSPX.excO C h0.objs.size) := by rw [ea0]; heap_get
  have J2 : Inv X pins σ (upd H a (exo a C none)) ⟨(h0.push (PySem.W.kdv_tup [])).push (HandSPX.excO C h0.objs.size), gs, dr, n0, os⟩ := J.laid (t' := n0) (a := a) (o := exo a C none) up la (exo_ok at_)
  have e2 : ws.length = ks.length := rz.length.symm.trans l2
  have b2 := hb.to _ [Value.ref a] ws J2.kIn rfl e2
  have r2 := hb.rel (vs := [V.ref a]) (us := [Value.ref a]) (.cons rfl .nil) rz
  have fr := J.hok.fresh la
  subst ea0
  refine wpAny_call (kw_call F.excBase_ValueError (fun Y => HandSPX.refsVE_contains Y bm hbm) (J.kIn _ _ hC) (PySem.W.looks_findIn J.kIn hI) (fun y => PySem.W.bind_fn J.kIn y hT) (by rw [sizeLine_eq]; exact Nat.zero_le _) (codeAny_mono (F1.run _ X.stack _ _ ⟨[Value.ref (h0.objs.size + 1)], ks.zip ws⟩ _ _ _ (fun _ _ _ => False) (hr.make C [] (ks.zip ws)) (J2.env0.make C [] (ks.zip ws)) b2 r2 hq) fun r s' w => ?_))
  cases r with
  | error y => exact hx pins σ _ _ y s' J2 w
  | ok fl =>
    cases fl with
    | ret u => exact out _ _ s' H fr J2 up la ⟨u, u, w, rfl⟩ u w
    | next => exact w.elim
    | brk => exact w.elim
    | cont => exact w.elim
theorem pe_mkk (T : OexC X.K C) (hI : PySem.W.findIn X.K (.ref C) "__init__" = some (some (.ref f))) (hT : PySem.W.typeIn X.K (.ref f) = some (.type "function"))
    (F1 : FnOk X.prog X.w X.K X.mg X.base CX k f fd ps sp) (hr : Room (k + 1) X.A) (hb : KBn X.K fd ps 1 ks g gV) (hx : Passes CX X (fun _ _ _ => False)) (hg : Gl X x) (hm : X.mg x = some (.ref C)) (hkw : PK X kws tk)
    (hall : (backToKw pos (keywordEach kws X.env)).all (·.1.isSome) = true := by rfl) (hks : (backToKw pos (keywordEach kws X.env)).filterMap (·.1) = ks := by rfl)
    (hdb : (x == ("__debug__" : Str)) = false := by decide) (hpl : ((backTo pos (starEach [] X.env)).any (·.1) || (backToKw pos (keywordEach kws X.env)).any (·.1.isNone)) = false := by rfl) :
    PE X (.Call (.Name x p) [] kws pos) (tMkK C ks.length sp gV tk) := by
  refine ⟨fun pins s σ H Q I h => wpAny_Call_Name_kw (ld_glob I hg hm ?_ hdb)⟩
  refine PySem.W.callWith_KW0 (h₀ := X.base) I.ok.mod.kin T.kC hall (thn (hkw.run pos pins s σ H _ I h) fun ws s2 ⟨zs, H2, I2, rz, l2, q2⟩ => ⟨I2.kIn, ?_⟩) hpl
  rw [hks]
  refine run_mkk (P := fun a v H2 => v = .non ∧ Q (.ref a) H2) T hI hT F1 hr hb hx I2 rz l2 q2 fun a b s' H1 n J up la _ u w => ?_
  obtain ⟨v, G2, J3, rv, ev, q3⟩ := J.after w
  subst ev
  exact ⟨rv, ⟨V.ref a, G2, J3, rfl, q3⟩⟩
end
end L2
set_option Elab.async false
set_option linter.all false
set_option maxRecDepth 100000
set_option maxHeartbeats 1000000
namespace L2
open PySem PySem.Spec PyProof.Rows
section
variable {X : Cx} {CX : CXT} {x : Str} {p pos : Pos} {C f : Addr} {k : Nat} {fd : FuncData} {ps ks : List Str} {sp : Sp} {kws : List Keyword} {tk : TA} {g : List Value → List Value → List Value} {gV : List V → List V → List V}
/-- such an exception is made by keywords, to be raised -/
def tMkOK (C : Addr) (m : Nat) (sp : Sp) (gV : List V → List V → List V) (tk : TA) : St → Hp → XK → Prop := fun σ H Q => tk σ H fun zs H1 => zs.length = m ∧ ∀ a, H1 a = none → sp (gV [.ref a] zs) (upd H1 a (exo a C none))
  (fun v H2 => v = .non ∧ ∃ (d : Addr) (fs : List (Str × V)), H2 a = some (exo a C (some d)) ∧ H2 d = some (exd d fs) ∧ H1 d = none ∧ Q (.ref C) (some d) (upd (del H2 a) d (.xd fs))) (fun _ _ _ => False)
theorem pmk_mkk (T : OexC X.K C) (hI : PySem.W.findIn X.K (.ref C) "__init__" = some (some (.ref f))) (hT : PySem.W.typeIn X.K (.ref f) = some (.type "function"))
    (F1 : FnOk X.prog X.w X.K X.mg X.base CX k f fd ps sp) (hr : Room (k + 1) X.A) (hb : KBn X.K fd ps 1 ks g gV) (hx : Passes CX X (fun _ _ _ => False)) (hg : Gl X x) (hm : X.mg x = some (.ref C)) (hkw : PK X kws tk)
    (hall : (backToKw pos (keywordEach kws X.env)).all (·.1.isSome) = true := by rfl) (hks : (backToKw pos (keywordEach kws X.env)).filterMap (·.1) = ks := by rfl)
    (hdb : (x == ("__debug__" : Str)) = false := by decide) (hpl : ((backTo pos (starEach [] X.env)).any (·.1) || (backToKw pos (keywordEach kws X.env)).any (·.1.isNone)) = false := by rfl) :
    L2N.PMk X (.Call (.Name x p) [] kws pos) (tMkOK C ks.length sp gV tk) := fun pins s σ H Q I h => by
  refine wpAny_Call_Name_kw (ld_glob I hg hm ?_ hdb)
  refine PySem.W.callWith_KW0 (h₀ := X.base) I.ok.mod.kin T.kC hall (thn (hkw.run pos pins s σ H _ I h) fun ws s2 ⟨zs, H2, I2, rz, l2, q2⟩ => ⟨I2.kIn, ?_⟩) hpl
  rw [hks]
  refine run_mkk (P := fun a v H3 => v = .non ∧ ∃ (d : Addr) (fs : List (Str × V)), H3 a = some (exo a C (some d)) ∧ H3 d = some (exd d fs) ∧ H2 d = none ∧ Q (.ref C) (some d) (upd (del H3 a) d (.xd fs))) T hI hT F1 hr hb hx I2 rz l2 q2 fun a b s' H1 n J up la _ u w => ?_
  obtain ⟨v, G2, os2, gn, un, hok, rv, ev, d, fs, e1, e2, nd, q3⟩ := w
  subst ev
  obtain ⟨h2, g2, d2, n2, o2⟩ := s'
  obtain ⟨t0, B, K, kB, nB, hB, nn⟩ := mk_end0 (d2 := d2) (t2 := n2) I2 la up un hok os2 gn e1 e2 nd
  exact ⟨rv, _, _, _, ⟨B, g2, d2, n2, o2⟩, _, .ref C, some d, rfl, K, kB, nB, hB, ⟨rfl, rfl, fun vs hv => by cases hv; rfl⟩, rfl, rfl, nn, rfl, gn, raises_own T.exC T.tyC, q3⟩
end
/-- by position and by the keyword n -/
def Exr3 (P : Program) (w : World) (K : PySem.W.Frag) (mg : Str → Option Value) (base : Heap) (k : Nat) (C : Addr) (f m n : Str) : Prop :=
  ∃ (fI : Addr) (fd : FuncData), PySem.W.findIn K (.ref C) "__init__" = some (some (.ref fI)) ∧ PySem.W.typeIn K (.ref fI) = some (.type "function") ∧ FnOk P w K mg base (L2N.CX P w) k fI fd ["self", n] (spExr K f m) ∧ Binds K fd ["self", n] [] ∧
    KBn K fd ["self", n] 1 [n] (fun us ws => us ++ ws) (fun vs zs => vs ++ zs) ∧ OexC K C ∧ PySem.W.findIn K (.ref C) f = some none
def Exk3 (P : Program) (w : World) (K : PySem.W.Frag) (mg : Str → Option Value) (base : Heap) (k : Nat) (C : Addr) (f n : Str) : Prop :=
  ∃ (fI : Addr) (fd : FuncData), PySem.W.findIn K (.ref C) "__init__" = some (some (.ref fI)) ∧ PySem.W.typeIn K (.ref fI) = some (.type "function") ∧ FnOk P w K mg base (L2N.CX P w) k fI fd ["self", n] (spExc K f) ∧
    KBn K fd ["self", n] 1 [n] (fun us ws => us ++ ws) (fun vs zs => vs ++ zs) ∧ OexC K C ∧ PySem.W.findIn K (.ref C) f = some none
theorem upd_mkx {H : Hp} {a b dx : Addr} {o1 o2 o3 o4 : HO} (h1 : b ≠ a) (h2 : dx ≠ a) : upd (upd (upd (upd H a o1) b o2) dx o3) a o4 = upd (upd (upd H b o2) dx o3) a o4 := by
  funext c
  by_cases e : c = a
  · rw [e, upd_same, upd_same]
  · rw [upd_ne e, upd_ne e]
    by_cases e2 : c = dx
    · rw [e2, upd_same, upd_same]
    · rw [upd_ne e2, upd_ne e2]
      by_cases e3 : c = b
      · rw [e3, upd_same, upd_same]
      · rw [upd_ne e3, upd_ne e3, upd_ne e]
end L2
namespace L3
open PySem PySem.Spec PyProof.Rows L2 He
section
variable {P : Program} {w : World} {K : PySem.W.Frag} {mg : Str → Option Value} {base : Heap} {C : Addr} {f n m qual : Str} {params : Arguments} {body : List Stmt} {scope : Scope} {fd : FuncData}
theorem kw_one (F : FunD K "__init__" qual params body scope [] [] (ma K C "__init__") fd)
    (h : ∀ (kV doc pm : Value) (an : Option Addr) (cdv ct : Value) (u v : Value), bindArgs (PySem.W.fnOf "__init__" qual params body scope .none kV doc pm an cdv ct) ⟨[u], [(n, v)]⟩ = pure [(("self" : Str), u), (n, v)]) : KBn K fd ["self", n] 1 [n] (fun us ws => us ++ ws) (fun vs zs => vs ++ zs) :=
  F.kbindsP 1 [n] (fun vs zs => vs ++ zs) (fun h t => h.append t) fun kV doc pm an cdv ct us ws h1 h2 => match us, ws, h1, h2 with
    | [u], [v], _, _ => h kV doc pm an cdv ct u v
theorem exr3_of (h : ExcF K C f) (F : FunD K "__init__" qual params body scope [] [] (ma K C "__init__") fd) (S : FnScope ["self", n] ["self", n] scope)
    (hb : ∀ (cdv : Value) (A : Around) (outer : List Env) (s : Shared) (H : Hp) (E : XK), PSs (cxOf (L2N.CX P w) P w K mg base ["self", n] qual scope (ma K C "__init__") cdv A outer s H E) body (tExr K f m)) (bd : Binds K fd ["self", n] [])
    (kb : ∀ (kV doc pm : Value) (an : Option Addr) (cdv ct : Value) (u v : Value), bindArgs (PySem.W.fnOf "__init__" qual params body scope .none kV doc pm an cdv ct) ⟨[u], [(n, v)]⟩ = pure [(("self" : Str), u), (n, v)]) : Exr3 P w K mg base 1 C f m n :=
  ⟨_, fd, h.ini, h.ty, ok_exr (k := 0) F S hb, bd, kw_one F kb, h.oex, h.no⟩
theorem exk3_of (h : ExcF K C f) (F : FunD K "__init__" qual params body scope [] [] (ma K C "__init__") fd) (S : FnScope ["self", n] ["self", n] scope)
    (hb : ∀ (cdv : Value) (A : Around) (outer : List Env) (s : Shared) (H : Hp) (E : XK), PSs (cxOf (L2N.CX P w) P w K mg base ["self", n] qual scope (ma K C "__init__") cdv A outer s H E) body (tExc K f))
    (kb : ∀ (kV doc pm : Value) (an : Option Addr) (cdv ct : Value) (u v : Value), bindArgs (PySem.W.fnOf "__init__" qual params body scope .none kV doc pm an cdv ct) ⟨[u], [(n, v)]⟩ = pure [(("self" : Str), u), (n, v)]) : Exk3 P w K mg base 1 C f n :=
  ⟨_, fd, h.ini, h.ty, ok_exc (k := 0) F S hb, kw_one F kb, h.oex, h.no⟩
end
section
variable {w : Wd} {H : Hp} {a b dx C : Addr} {f m : Str} {d : D} {v : V}
/-- the three new things are public -/
theorem pub_exr (ok : WOk w H) (ha : H a = none) (hb : H b = none) (hd : H dx = none) (n1 : b ≠ a) (n2 : dx ≠ a) (n3 : dx ≠ b) (r : DR w.B w.G d v) :
    ∃ w', Step w H w' (upd (upd (upd H b (.tup [.str m])) dx (exd dx [(f, v)])) a (exr a C (some dx) b)) ∧ DR w'.B w'.G (.exd C (some m) [f] [d]) (.ref a) ∧ w'.n = w.n := by
  have s1 := ok.pub (o := .tup [.str m]) hb
  have s2 := s1.ok.pub (p := dx) (o := exd dx [(f, v)]) (by rw [upd_ne n3]; exact hd)
  have s3 := s2.ok.pub (p := a) (o := exr a C (some dx) b) (by rw [upd_ne (Ne.symm n2), upd_ne (Ne.symm n1)]; exact ha)
  refine ⟨_, (s1.trans s2).trans s3, ?_, rfl⟩
  have r3 := ((s1.trans s2).trans s3).dr r
  unfold DR
  refine ⟨a, _, some dx, some b, [(f, v)], rfl, upd_same, ⟨_, rfl, fun h z => ⟨_, _, z, rfl, rfl, rfl, fun c e => by cases e; rfl⟩⟩, fun x e => ?_, fun c e => ?_, (fun z => nomatch z), rfl, DRs.cons r3 DRs.nil⟩
  · cases e
    exact ⟨b, rfl, by show upd (upd (upd w.G b (.tup [.str m])) dx (exd dx [(f, v)])) a _ b = _; rw [upd_ne n1, upd_ne (Ne.symm n3), upd_same]⟩
  · cases e
    exact ⟨_, by show upd (upd (upd w.G b (.tup [.str m])) dx (exd dx [(f, v)])) a _ dx = _; rw [upd_ne n2, upd_same], .inr rfl⟩
end
section
variable [XCt] {X : Cx} {j k : Nat} {C : Addr} {f m n x : Str} {e : Expr} {te : TE3} {tk : TA3} {kws : List Keyword} {p pos2 pos : Pos}
/-- C(e) and C(n=e) as things -/
def dMkX (C : Addr) (f m : Str) (te : TE3) : TE3 := fun σ n Q => te σ n fun d n1 => Q (.exd C (some m) [f] [d]) n1
def dMkK (C : Addr) (f m : Str) (tk : TA3) : TE3 := fun σ n Q => tk σ n fun ds n1 => ∃ d, ds = [d] ∧ Q (.exd C (some m) [f] [d]) n1
theorem d_mkx (h : Exr3 X.prog X.w X.K X.mg X.base j C f m n) (hr : Rm k X) (hm : X.mg x = some (.ref C)) (he : DE X e te) (hg : Gl X x := by rfl) (hj : j + 1 ≤ k := by decide)
    (hdb : (x == ("__debug__" : Str)) = false := by decide) (hs : starEach [e] X.env = (false, eval e X.env) :: starEach [] X.env := by rfl) :
    DE X (.Call (.Name x p) [e] [] pos) (dMkX C f m te) := by
  obtain ⟨fI, fd, iC, tI, F1, hb, kb, T, no⟩ := h
  refine .of (pe_mkx T iC tI F1 (hr.r.mono hj) hb passN hg hm (pa_cons he.pe pa_nil hs) hdb hs rfl) fun w w0 H0 σ3 σ H Q sr q => ?_
  show teOf X te σ H _
  refine teOf.use sr q fun d v w1 H1 s1 r1 q1 => ?_
  show (1 ≤ 1000) ∧ _
  refine ⟨by omega, fun a ha => ⟨a, C, v, rfl, T, no, upd_same, fun b dx nb hb' nd hd' hdb' => ?_⟩⟩
  rw [upd_ne hb'] at nb
  rw [upd_ne hd'] at nd
  rw [upd_mkx hb' hd']
  obtain ⟨w2, s2, r2, en⟩ := pub_exr (C := C) (f := f) (m := m) s1.ok ha nb nd hb' hd' hdb' r1
  exact ⟨rfl, w2, _, s1.trans s2, r2, by rw [en]; exact q1⟩
theorem d_mkk (h : Exr3 X.prog X.w X.K X.mg X.base j C f m n) (hr : Rm k X) (hm : X.mg x = some (.ref C)) (hkw : DK X kws tk) (hg : Gl X x := by rfl) (hj : j + 1 ≤ k := by decide)
    (hall : (backToKw pos (keywordEach kws X.env)).all (·.1.isSome) = true := by rfl) (hks : (backToKw pos (keywordEach kws X.env)).filterMap (·.1) = [n] := by rfl) (hdb : (x == ("__debug__" : Str)) = false := by decide)
    (hpl : ((backTo pos (starEach [] X.env)).any (·.1) || (backToKw pos (keywordEach kws X.env)).any (·.1.isNone)) = false := by rfl) :
    DE X (.Call (.Name x p) [] kws pos) (dMkK C f m tk) := by
  obtain ⟨fI, fd, iC, tI, F1, hb, kb, T, no⟩ := h
  refine .of (pe_mkk T iC tI F1 (hr.r.mono hj) kb passN hg hm hkw.pk hall hks hdb hpl) fun w w0 H0 σ3 σ H Q sr q => taOf.use sr q fun es us w1 H1 s1 r1 ⟨d, ed, q1⟩ => ?_
  subst ed
  obtain ⟨v, vs, rfl, rd, r1⟩ := r1.cons_inv
  cases r1.nil_inv
  refine ⟨rfl, fun a ha => ⟨a, C, v, rfl, T, no, upd_same, fun b dx nb hb' nd hd' hdb' => ?_⟩⟩
  rw [upd_ne hb'] at nb
  rw [upd_ne hd'] at nd
  rw [upd_mkx hb' hd']
  obtain ⟨w2, s2, r2, en⟩ := pub_exr (C := C) (f := f) (m := m) s1.ok ha nb nd hb' hd' hdb' rd
  exact ⟨rfl, w2, _, s1.trans s2, r2, by rw [en]; exact q1⟩
/-- an own class without own __init__ -/
def dMk0 (C : Addr) (te : TE3) : TE3 := fun σ n Q => te σ n fun _ n1 => Q (.exd C none [] []) n1
structure Exz (K : PySem.W.Frag) (C : Addr) : Prop where
  ex : PySem.W.excIn K C [.type "ValueError", .type "Exception", .type "BaseException", .type "object"] "ValueError.__new__" = true
  kp : PySem.W.keepIn K (.ref C) = true
theorem d_mk0 (h : Exz X.K C) (hm : X.mg x = some (.ref C)) (he : DE X e te) (hg : Gl X x := by rfl)
    (hdb : (x == ("__debug__" : Str)) = false := by decide) (hs : starEach [e] X.env = (false, eval e X.env) :: starEach [] X.env := by rfl) : DE X (.Call (.Name x p) [e] [] pos) (dMk0 C te) :=
  .of (pe_exc1 F.excBase_ValueError h.ex hm h.kp hg he.pe hs hdb) fun w w0 H0 σ3 σ H Q sr q => teOf.use sr q fun d v w1 H1 s1 r1 q1 a ha => by
    have s2 := s1.ok.pub (p := a) (o := ExO (.ref C) a) ha
    refine ⟨_, .exd C none [] [], s1.trans s2, ?_, q1⟩
    unfold DR
    exact ⟨a, _, none, none, [], rfl, upd_same, ⟨_, rfl, fun h ⟨oe, vs, z1, z2, z3, _⟩ => ⟨oe, vs, z1, z2.1, z2.2, z3, fun _ e => nomatch e⟩⟩, (fun _ e => nomatch e), (fun _ e => nomatch e), fun _ => rfl, rfl, DRs.nil⟩
/-- raise C(n=e) -/
def dRaiseK (C : Addr) (f : Str) (tk : TA3) : TS3 := fun _ σ n => tk σ n fun ds n1 => ∃ d, ds = [d] ∧ XCt.xc ⟨C, [f], [d]⟩ σ n1
theorem ds_raiseK (h : Exk3 X.prog X.w X.K X.mg X.base j C f n) (hr : Rm k X) (hc : X.calm = true) (hm : X.mg x = some (.ref C)) (hkw : DK X kws tk) (hg : Gl X x := by rfl) (hj : j + 1 ≤ k := by decide)
    (hall : (backToKw pos2 (keywordEach kws X.env)).all (·.1.isSome) = true := by rfl) (hks : (backToKw pos2 (keywordEach kws X.env)).filterMap (·.1) = [n] := by rfl) (hdb : (x == ("__debug__" : Str)) = false := by decide)
    (hpl : ((backTo pos2 (starEach [] X.env)).any (·.1) || (backToKw pos2 (keywordEach kws X.env)).any (·.1.isNone)) = false := by rfl) :
    DS X (.Raise (some (.Call (.Name x p) [] kws pos2)) none pos) (dRaiseK C f tk) := by
  obtain ⟨fI, fd, iC, tI, F1, kb, T, no⟩ := h
  refine .of (L2N.ps_raise hc takes_wm (pmk_mkk T iC tI F1 (hr.r.mono hj) kb passN hg hm hkw.pk hall hks hdb hpl)) fun w w0 H0 σ3 σ H E sr q => ?_
  show taOf X tk σ H _
  refine taOf.use sr q fun es us w1 H1 s1 r1 ⟨d, ed, q1⟩ => ?_
  subst ed
  obtain ⟨v, vs, rfl, rd, r1⟩ := r1.cons_inv
  cases r1.nil_inv
  refine ⟨rfl, fun a ha => ⟨a, C, v, rfl, T, no, upd_same, fun dx hdx hne => ?_⟩⟩
  have hd1 : H1 dx = none := by rw [← hdx, upd_ne hne]
  refine ⟨rfl, dx, [(f, v)], upd_same, by rw [upd_ne hne, upd_same], hd1, ?_⟩
  show Wm X (.ref C) (some dx) σ _
  rw [upd_exc ha hne]
  have st := s1.ok.pub (o := .xd [(f, v)]) hd1
  refine H0.xl ⟨C, [f], [d]⟩ (.ref C) (some dx) _ σ3 σ _ ((sr.step s1).step st) ⟨rfl, .inr ⟨dx, [(f, v)], rfl, upd_same, rfl, ?_⟩⟩ q1
  exact DRs.cons (st.dr rd) DRs.nil
end
end L3
set_option Elab.async false
set_option linter.all false
set_option maxRecDepth 100000
set_option maxHeartbeats 1000000
namespace L3
open PySem PySem.Spec PyProof.Rows L2
section
variable {X : Cx}
/-- a field -/
def tXfX (K : PySem.W.Frag) (f : Str) (te : TE) : TE := fun σ H Q => te σ H fun x H1 => ∃ (a C dx : Addr) (t : Option Addr) (o u : HO) (fs : List (Str × V)) (v : V), x = .ref a ∧ H1 a = some o ∧ IsX a C (some dx) t o ∧ XfC K C ∧ PySem.W.findIn K (.ref C) f = some none ∧
  H1 dx = some u ∧ IsXd dx fs u ∧ fs.lookup f = some v ∧ Q v H1
/-- isinstance(e, c) -/
def rIsiX (K : PySem.W.Frag) : List V → Hp → VK → Prop := fun xs H Q => ∃ (a C : Addr) (od t : Option Addr) (o : HO) (c : V) (u : Value) (b : Bool), xs = [.ref a, c] ∧ H a = some o ∧ IsX a C od t o ∧ (∀ dx, od = some dx → ∃ u fs, H dx = some u ∧ IsXd dx fs u) ∧
  ExcI K C ∧ ClsV c u ∧ PySem.W.kitOne K (.ref C) u = some b ∧ Q (.bl b) H
theorem call_isiX : CallR X (.builtin "isinstance") (rIsiX X.K) := by
  intro pins s σ H xs us Q I r h
  obtain ⟨a, C, od, t, o, c, u, b, rfl, e1, ix, hd, T, k, e, q⟩ := h
  obtain ⟨u1, u2, rfl, r1, r2⟩ := vals2 r
  have e2 := k.eq r2
  subst e2
  obtain rfl : u1 = Value.ref a := r1
  obtain ⟨oe, vs, ob, J, _⟩ := ix.inst I e1 hd
  exact PySem.W.kia_one (PySem.W.kitx_exc T.cl T.ga T.gg T.exC T.ca T.cg T.ct T.cm) I.kIn J e (fun z => nomatch z) fun tk => ⟨.bl b, H, I.tok tk, rfl, q⟩
/-- repr(e) -/
structure RepI (K : PySem.W.Frag) (C : Addr) : Prop where
  rp : PySem.W.findIn K (.ref C) "__repr__" = some (some (.builtin "BaseException.__repr__"))
  bx : PySem.W.subIn K (.ref C) (.type "BaseException") = some true
/-- the head of what is shown -/
def headX (K : PySem.W.Frag) (C : Addr) : Option Str := (PySem.W.clsIn K C).map fun cd => excReprHead cd.name.toString
def rRepX (K : PySem.W.Frag) : List V → Hp → VK → Prop := fun xs H Q => ∃ (a C t : Addr) (od : Option Addr) (o : HO) (m hd : Str), xs = [.ref a] ∧ H a = some o ∧ IsX a C od (some t) o ∧ H t = some (.tup [.str m]) ∧ RepI K C ∧ headX K C = some hd ∧
  (hd ++ "(" ++ reprText m ++ ")").length ≤ sizeLine ∧ Q (.str (hd ++ "(" ++ reprText m ++ ")")) H
theorem call_repX (hu : X.A.units + 65 < cLine) : CallR X (.builtin "repr") (rRepX X.K) := by
  intro pins s σ H xs us Q I r h
  obtain ⟨a, C, t, od, o, m, hd, rfl, e1, ix, e2, T, eh, hz, q⟩ := h
  obtain ⟨u, rfl, ru⟩ := vals1 r
  cases ru
  obtain ⟨oe, vs, z1, z2, z3, z4, z5⟩ := ix.obj I.hok e1
  obtain ⟨_, its, rv, ot, h1, h2, n, h3⟩ := (show ObjOk X.prog X.w H s.heap t (.tup [.str m]) from I.hok t _ e2)
  obtain ⟨w1, rfl, r1⟩ := vals1 rv
  obtain ⟨tk, rfl⟩ := (show ∃ tk, w1 = Value.str m tk from r1)
  unfold headX at eh
  cases hc : PySem.W.clsIn X.K C with
  | none => rw [hc] at eh; cases eh
  | some cd =>
    rw [hc] at eh
    cases eh
    exact repr_call (by show X.A.units + 1 < cLine; omega) ⟨I.kIn, oe, vs, z1, z2, z4, z5 t rfl⟩ ⟨ot, n, h1, h2, h3⟩ hc T.rp T.bx ⟨.str _, H, I.tok _, ⟨_, rfl⟩, q⟩ hz
end
section
variable [XCt] {X : Cx} {e : Expr} {te : TE3} {f : Str} {pos : Pos} {Cs : List Addr}
theorem isP_none {K : PySem.W.Frag} {u : Value} : IsP K u fun _ => none := ⟨fun d b e => nomatch e⟩
/-- what repr shows -/
def showDp (ks : List Key) (ds : List D) : Prop := ds.all D.plain = true ∧ (PyData.dict (dkPy ks ds)).showable = true ∧ (PyData.dict (dkPy ks ds)).depth ≤ 64 ∧ (PyData.dict (dkPy ks ds)).shown.length ≤ sizeLine
def ReprOf (K : PySem.W.Frag) (t : Str) : D → Prop
  | .dk ks ds => showDp ks ds ∧ t = (PyData.dict (dkPy ks ds)).shown
  | .exd C (some m) _ _ => RepI K C ∧ ∃ hd, headX K C = some hd ∧ (hd ++ "(" ++ reprText m ++ ")").length ≤ sizeLine ∧ t = hd ++ "(" ++ reprText m ++ ")"
  | d => d.showOk ∧ t = d.py.shown
def rReprX3 (K : PySem.W.Frag) : RC3 := fun ds n Q => ∃ d t, ds = [d] ∧ ReprOf K t d ∧ Q (.raw (.str t)) n
theorem dp_kvs {K : PySem.W.Frag} {B : Sh} {G H : Hp} (g : Ex G H) : ∀ {kvs : List (Key × V)} {ds : List D}, DRs B G ds (kvs.map (·.2)) → ds.all D.plain = true → DpKV K H kvs (dkPy (kvs.map (·.1)) ds)
  | [], ds, _, _ => by unfold dkPy; rw [List.map_nil, List.zipWith_nil_left]; exact .nil
  | _ :: _, [], h, _ => by have := h.length; simp at this
  | (k, v) :: kvs, d :: ds, h, hf => by
    rw [List.map_cons] at h
    obtain ⟨v', ws, ev, r, t⟩ := h.cons_inv
    cases ev
    rw [List.all_cons, Bool.and_eq_true] at hf
    obtain ⟨p1, l1⟩ := DR.dp (K := K) g d v r hf.1
    exact .cons ⟨rfl, p1, PyData.hasDict_of_canLay _ l1⟩ (dp_kvs g t hf.2)
theorem cd_reprX (hgd : X.A.guards = some []) (hu : X.A.units + 65 < cLine) : CallD X (.builtin "repr") (rReprX3 X.K) :=
  ⟨_, CallR.or (call_reprD hgd hu) (CallR.or (call_reprP hgd hu) (call_repX hu)), fun w H vs ds Q ok h ⟨d, t, ed, ro, q⟩ => by
    subst ed
    obtain ⟨v, rfl, r⟩ := vrs1 h
    have plain : d.showOk ∧ t = d.py.shown → (rReprD X.K [v] H fun v H' => ∃ w' d, Step w H w' H' ∧ DR w'.B w'.G d v ∧ Q d w'.n) ∨ ((rReprP X.K [v] H fun v H' => ∃ w' d, Step w H w' H' ∧ DR w'.B w'.G d v ∧ Q d w'.n) ∨ rRepX X.K [v] H fun v H' => ∃ w' d, Step w H w' H' ∧ DR w'.B w'.G d v ∧ Q d w'.n) := fun ⟨⟨c, hs, hz⟩, et⟩ => by
      subst et
      obtain ⟨p1, l1⟩ := r.dp (K := X.K) ok c.1
      exact Or.inl ⟨v, d.py, rfl, p1, hs, PyData.hasDict_of_canLay _ l1, c.2, hz, w, _, ok.refl, dr_raw, q⟩
    cases d with
    | dk ks es =>
      obtain ⟨⟨f, hs, hdp, hz⟩, et⟩ := ro
      subst et
      obtain ⟨a, kvs, rfl, hh, ek, hk, tt⟩ := r.dk ok
      subst ek
      exact .inr (.inl ⟨a, kvs, _, rfl, hh, dp_kvs ok.gh tt f, hs, hdp, hz, w, _, ok.refl, dr_raw, q⟩)
    | exd C m ns fs =>
      cases m with
      | none => exact plain ro
      | some m =>
        obtain ⟨T, hd, eh, hz, et⟩ := ro
        subst et
        have r := r.flat rfl
        unfold DR at r
        obtain ⟨a, o, od, t, gs, ev, ga, ix, hm, _, _, _, _⟩ := r
        subst ev
        obtain ⟨b, e1, e2⟩ := hm m rfl
        subst e1
        exact .inr (.inr ⟨a, C, b, od, o, m, hd, rfl, ok.gh _ _ ga, ix, ok.gh _ _ e2, T, eh, hz, w, _, ok.refl, dr_raw, q⟩)
    | _ => exact plain ro⟩
end
end L3
set_option Elab.async false
set_option linter.all false
set_option maxRecDepth 100000
set_option maxHeartbeats 1000000
namespace L2H
open PySem PySem.Spec PyProof.Rows L2 HotX
/-- what a def promises where p's exception is handled -/
structure FnHp (p : Addr × Obj) (P : Program) (w : World) (K : PySem.W.Frag) (mg : Str → Option Value) (base : Heap) (CX : CXT) (k : Nat) (f : Addr) (fd : FuncData) (ps : List Str) (sp : Sp) : Prop where
  len : ∀ vs H Q E, sp vs H Q E → vs.length = ps.length
  run : ∀ (A : Around) (out : List Env) (s : Shared) (H : Hp) (ar : Args) (us : List Value) (vs : List V) (Q : VK) (E : XK), RoomH k A → Hot1 A p → PinOk out H s p → Env0 P w K mg base A out s H → BindsTo s fd ar (ps.zip us) → Vals vs us → sp vs H Q E →
    codeAny (model P w) A (.call (.ref f) ar) (CR CX out P w H s Q E) s
theorem fnHp_of {p : Addr × Obj} {CX : CXT} {P : Program} {w : World} {K : PySem.W.Frag} {mg : Str → Option Value} {base : Heap} {k : Nat} {f : Addr} {name qual : Str} {params : Arguments} {body : List Stmt} {scope : Scope} {dV kV doc pm cdv ct oc : Value} {an od : Option Addr}
    {osl : Array (Option Value)} {N ps : List Str} {sp : Sp} (lk : K.lookup f = some ⟨oc, od, .func (PySem.W.fnOf name qual params body scope dV kV doc pm an cdv ct), osl⟩) (hcd : PySem.W.codeIn K cdv qual = true) (S : FnScope N ps scope)
    (len : ∀ vs H Q E, sp vs H Q E → vs.length = ps.length)
    (bd : ∀ (A : Around) (out : List Env) (s : Shared) (H : Hp) (vs : List V) (Q : VK) (E : XK), Hot1 A p → RoomH k (A.deeper (envOfC qual scope s.heap.objs.size f cdv)) → sp vs H Q E →
      ∃ t, PSs (cxH CX P w K mg base N qual scope f cdv A out s H E p) body t ∧ t { nx := fun _ H' => Q .non H', rt := Q } (L2.start N vs) H) :
    FnHp p P w K mg base CX (k + 1) f (PySem.W.fnOf name qual params body scope dV kV doc pm an cdv ct) ps sp := ⟨len, fun A out s H ar us vs Q E rm hot pin e0 hb r q => by
  have kx : K.In s.heap := e0.mod.kin.keeps fun b o e => (e0.bs b o e).1
  have nl : s.heap.NoLimit := e0.mod.nolimit.keeps fun b o e => (e0.bs b o e).1
  have kd : ∀ y ∈ ps.zip us, scope.names.lookup y.1 = some .local ∨ (scope.names.lookup y.1 = some .cell ∧ ((cellsFrom (s.heap.objs.size + 1) scope.names []).lookup y.1).isSome = true) := fun y hy =>
    (S.par y.1 (List.of_mem_zip hy).1).imp id fun z => ⟨z, PySem.W.cellsFrom_some _ _ _ (.inl z)⟩
  refine codeAny_call_function rm.depth (kx _ _ lk) rfl S.co S.gen rfl (PySem.W.codeRec_of kx hcd) (hb _ _ _ _ (wpAny_newFunctionEnv_cells S.kind kd fun env he s1 x => ?_))
  subst he
  obtain ⟨t, ht, q2⟩ := bd A out s H vs Q E hot (rm.deeper _) q
  have I0 := inv_startH (CX := CX) (E := E) S pin e0 (len _ _ _ _ q) r x
  refine ⟨nl.keeps x.toInCall.keep, codeAny_func (wpAny_mono (ht.run [] s1 (L2.start N vs) H _ I0 q2) (fun fl z hs => ?_) fun _ _ hs => hs)⟩
  cases fl with
  | next => obtain ⟨_, H', J, y⟩ := hs; exact ⟨V.non, H', J.os, J.bare, J.base, J.hok, rfl, y⟩
  | ret u => obtain ⟨v, _, H', J, rv, y⟩ := hs; exact ⟨v, H', J.os, J.bare, J.base, J.hok, rv, y⟩
  | brk => obtain ⟨_, _, _, y⟩ := hs; exact y.elim
  | cont => obtain ⟨_, _, _, y⟩ := hs; exact y.elim⟩
section
variable {X : Cx} {CX : CXT} {p : Addr × Obj} {k : Nat} {f : Addr} {fd : FuncData} {ps : List Str} {sp : Sp} {E : St → XK} {x : Str} {q pos : Pos} {e : Expr} {es : List Expr} {t : TA}
theorem pe_callHp (F : FnHp p X.prog X.w X.K X.mg X.base CX k f fd ps sp) (hr : RoomH k X.A) (hot : Hot1 X.A p) (hp : p ∈ X.pn) (hg : Gl X x) (hm : X.mg x = some (.ref f)) (hk : PySem.W.keepIn X.K (.ref f) = true) (hb : Binds X.K fd ps []) (hx : ∀ σ, PassesAt CX X σ (E σ))
    (ha : PA X (e :: es) t) (hdb : (x == ("__debug__" : Str)) = false := by decide) (he : starEach (e :: es) X.env = (false, eval e X.env) :: starEach es X.env := by rfl) (hpl : (backTo pos (starEach es X.env)).any (·.1) = false := by rfl) :
    PE X (.Call (.Name x q) (e :: es) [] pos) (tCallS sp E t) := by
  refine ⟨fun pins s σ H Q I h => wpAny_Call_Name_kw (ld_glob I hg hm (PySem.W.callWith_K (h₀ := X.base) I.ok.mod.kin hk (thn (ha.run pos pins s σ H _ I h) fun us s1 ⟨vs, H1, J, r, y⟩ => ⟨J.kIn, ?_⟩) he hpl) hdb)⟩
  have ln : us.length = ps.length := by rw [← r.length]; exact F.len _ _ _ _ y
  have bn := hb s1 us J.kIn (by rw [List.append_nil]; exact ln)
  rw [List.append_nil] at bn
  obtain ⟨z1, z2, z3, z4, z5⟩ := J.pin p (List.mem_append_left _ hp)
  have pk : PinOk X.stack H1 s1 p := ⟨z1, z2, fun hm => (List.mem_cons.mp (J.stkSub p.1 hm)).elim z3 z4, z5⟩
  refine wpAny_call (codeAny_mono (F.run X.A X.stack s1 H1 ⟨us, []⟩ us vs Q (E σ) hr hot pk J.env0 bn r y) fun w s' hq => ?_)
  cases w with
  | error z => exact hx σ pins H1 s1 z s' J hq
  | ok fl =>
    cases fl with
    | ret u => exact J.after hq
    | next => exact hq.elim
    | brk => exact hq.elim
    | cont => exact hq.elim
end
end L2H
namespace L3
open PySem PySem.Spec PyProof.Rows L2 L2H HotX
/-- the handled exception: where it stands, its class, its dict -/
abbrev Zx := Option (Addr × Addr × Option Addr)
/-- it is known in this context -/
def ZOk (X : Cx) (z : Zx) : Prop := ∀ a C d, z = some (a, C, d) → ∃ oe, (a, oe) ∈ X.pn ∧ L2N.Zn (.ref C) d oe ∧ ∃ vs, oe.data = .fields vs
theorem zok_none {X : Cx} : ZOk X none := fun _ _ _ e => nomatch e
section
variable {X : Cx} {pins : List (Addr × Obj)} {σ : St2} {H : Hp} {s : Shared}
theorem pin_inst {a C dx : Addr} {oe : Obj} {fs : List (Str × V)} (I : Inv X pins σ H s) (hp : (a, oe) ∈ X.pn) (hz : L2N.Zn (.ref C) (some dx) oe) (hf : ∃ vs, oe.data = .fields vs) (hd : H dx = some (.xd fs)) :
    ∃ (oo : Obj) (mA : Str → Option Value), PySem.W.InstAt s.heap a oe C (some oo) ∧ (∀ n, PySem.W.lookIn n oo = some (mA n)) ∧ ∀ f, RelO (fs.lookup f) (mA f) := by
  obtain ⟨mA, hns, hr⟩ := (show ObjOk X.prog X.w H s.heap dx (.xd fs) from I.hok dx _ hd)
  obtain ⟨oo, ho, hl⟩ := lookIn_ns hns
  obtain ⟨vs, ed⟩ := hf
  have at_ := (I.pin (a, oe) (List.mem_append_left _ hp)).1
  exact ⟨oo, mA, ⟨at_, hz.1, by unfold PySem.W.notCls; rw [ed] <;> rfl, by rw [hz.2.1]; exact ho⟩, hl, hr⟩
end
section
variable {X : Cx}
/-- a field of the handled exception -/
def tXfN (X : Cx) (f : Str) (te : TE) : TE := fun σ H Q => te σ H fun x H1 => ∃ (a C dx : Addr) (oe : Obj) (fs : List (Str × V)) (v : V), x = .ref a ∧ (a, oe) ∈ X.pn ∧ L2N.Zn (.ref C) (some dx) oe ∧ (∃ vs, oe.data = .fields vs) ∧ XfC X.K C ∧ PySem.W.findIn X.K (.ref C) f = some none ∧
  H1 dx = some (.xd fs) ∧ fs.lookup f = some v ∧ Q v H1
theorem pe_xfZ {e : Expr} {te : TE} {pos : Pos} {n : Str} (he : PE X e te) (hb : attributeBase e n X.env (eval e X.env) = eval e X.env := by rfl) : PE X (.Attribute e n pos) (fun σ H Q => te σ H fun x H1 => tXfX X.K n (fun _ H2 Q2 => Q2 x H2) σ H1 Q ∨ tXfN X n (fun _ H2 Q2 => Q2 x H2) σ H1 Q) := by
  refine ⟨fun pins s σ H Q I h => attr_of hb (thn (he.run pins s σ H _ I h) fun u s1 hh => ?_)⟩
  obtain ⟨x, H1, I1, rx, hh | hh⟩ := hh
  · obtain ⟨a, C, dx, t, o, u', fs, v, ex, e1, ix, T, hno, e2, id, l, q⟩ := hh
    subst ex
    obtain rfl : u = Value.ref a := rx
    obtain ⟨oe, vs, ob, J, _, _, k⟩ := ix.inst I1 e1 (fun dx' z => by cases z; exact ⟨u', fs, e2, id⟩)
    obtain ⟨oo, mA, eo, hl, hr⟩ := k dx fs u' rfl e2 id
    subst eo
    obtain ⟨y, hy, ry⟩ := RelO.some_of (v := v) (o := mA n) (by rw [← l]; exact hr n)
    exact HandSPX.exc_get I1.kIn J T.ga T.gg T.exC (PySem.W.findObj_own T.hdC hno rfl (by rw [hl, hy])) (handed_of ry) ⟨v, H1, I1.tok _, ry, q⟩
  · obtain ⟨a, C, dx, oe, fs, v, ex, hp, hz, hf, T, hno, hd, l, q⟩ := hh
    subst ex
    obtain rfl : u = Value.ref a := rx
    obtain ⟨oo, mA, J, hl, hr⟩ := pin_inst I1 hp hz hf hd
    obtain ⟨y, hy, ry⟩ := RelO.some_of (v := v) (o := mA n) (by rw [← l]; exact hr n)
    exact HandSPX.exc_get I1.kIn J T.ga T.gg T.exC (PySem.W.findObj_own T.hdC hno rfl (by rw [hl, hy])) (handed_of ry) ⟨v, H1, I1.tok _, ry, q⟩
/-- isinstance of the handled exception -/
def rIsiN (X : Cx) : List V → Hp → VK → Prop := fun xs H Q => ∃ (a C dx : Addr) (oe : Obj) (fs : List (Str × V)) (c : V) (u : Value) (b : Bool), xs = [.ref a, c] ∧ (a, oe) ∈ X.pn ∧ L2N.Zn (.ref C) (some dx) oe ∧ (∃ vs, oe.data = .fields vs) ∧ H dx = some (.xd fs) ∧
  ExcI X.K C ∧ ClsV c u ∧ PySem.W.kitOne X.K (.ref C) u = some b ∧ Q (.bl b) H
theorem call_isiN : CallR X (.builtin "isinstance") (rIsiN X) := by
  intro pins s σ H xs us Q I r h
  obtain ⟨a, C, dx, oe, fs, c, u, b, rfl, hp, hz, hf, hd, T, k, e, q⟩ := h
  obtain ⟨u1, u2, rfl, r1, r2⟩ := vals2 r
  have e2 := k.eq r2
  subst e2
  obtain rfl : u1 = Value.ref a := r1
  obtain ⟨oo, mA, J, _, _⟩ := pin_inst I hp hz hf hd
  exact PySem.W.kia_one (PySem.W.kitx_exc T.cl T.ga T.gg T.exC T.ca T.cg T.ct T.cm) I.kIn J e (fun z => nomatch z) fun tk => ⟨.bl b, H, I.tok tk, rfl, q⟩
end
section
variable [XCt] {X : Cx} {e : Expr} {te : TE3} {f : Str} {pos : Pos} {Cs : List Addr} {z : Zx}
/-- of the handled exception, too -/
def pZ (K : PySem.W.Frag) (z : Zx) (u : Value) (p : D → Option Bool) : D → Option Bool
  | .exd C _ _ _ => if excIB K C then PySem.W.kitOne K (.ref C) u else none
  | .exn a C dx _ _ => if z = some (a, C, some dx) ∧ excIB K C = true then PySem.W.kitOne K (.ref C) u else none
  | d => p d
theorem cd_isiZ {p : D → Option Bool} {cv : V} {u : Value} (hz : ZOk X z) (ip : IsP X.K u p) (k : ClsV cv u) : CallD X (.builtin "isinstance") (rIsi3 (pZ X.K z u p) cv) :=
  ⟨_, CallR.or call_isi (CallR.or call_isiX call_isiN), fun w H vs ds Q ok h ⟨x, b, ed, e, q⟩ => by
    subst ed
    obtain ⟨v1, v2, rfl, r1, r2⟩ := vrs2 h
    have old : p x = some b → (rIsi X.K [v1, v2] H (fun v H' => ∃ w' d, Step w H w' H' ∧ DR w'.B w'.G d v ∧ Q d w'.n) ∨ (rIsiX X.K [v1, v2] H (fun v H' => ∃ w' d, Step w H w' H' ∧ DR w'.B w'.G d v ∧ Q d w'.n) ∨ rIsiN X [v1, v2] H (fun v H' => ∃ w' d, Step w H w' H' ∧ DR w'.B w'.G d v ∧ Q d w'.n))) := fun e => by
      obtain ⟨t, et, ek, ho⟩ := ip.h x b e
      exact Or.inl ⟨v1, v2, t, u, b, rfl, by rw [vr_raw r2]; exact k, r1.tyx ok et ho, ek, w, _, ok.refl, dr_bl, q⟩
    cases x with
    | exd C m ns ds =>
      have e : (if excIB X.K C then PySem.W.kitOne X.K (.ref C) u else none) = some b := e
      by_cases c : excIB X.K C = true
      · rw [if_pos c] at e
        have r := r1.flat rfl
        unfold DR at r
        obtain ⟨a, o, od, t, gs, ev, ga, ix, _, hd, _, _, _⟩ := r
        subst ev
        exact .inr (.inl ⟨a, C, od, t, o, v2, u, b, rfl, ok.gh _ _ ga, ix, fun dx z => let ⟨y, e1, e2⟩ := hd dx z; ⟨y, _, ok.gh _ _ e1, e2⟩, excIB_ok c, by rw [vr_raw r2]; exact k, e, w, _, ok.refl, dr_bl, q⟩)
      · rw [if_neg c] at e; cases e
    | exn a C dx ns ds =>
      have e : (if z = some (a, C, some dx) ∧ excIB X.K C = true then PySem.W.kitOne X.K (.ref C) u else none) = some b := e
      by_cases c : z = some (a, C, some dx) ∧ excIB X.K C = true
      · rw [if_pos c] at e
        obtain ⟨oe, hp, hz', hf⟩ := hz a C (some dx) c.1
        have r := r1.flat rfl
        unfold DR at r
        obtain ⟨fs, ev, gd, _, _⟩ := r
        subst ev
        exact .inr (.inr ⟨a, C, dx, oe, fs, v2, u, b, rfl, hp, hz', hf, ok.gh _ _ gd, excIB_ok c.2, by rw [vr_raw r2]; exact k, e, w, _, ok.refl, dr_bl, q⟩)
      · rw [if_neg c] at e; cases e
    | _ => exact old e⟩
/-- e.f -/
def XfZ (z : Zx) (Cs : List Addr) (f : Str) (d v : D) : Prop := (∃ C m ns ds, d = .exd C m ns ds ∧ C ∈ Cs ∧ fldD f ns ds = some v) ∨ ∃ a C dx ns ds, d = .exn a C dx ns ds ∧ z = some (a, C, some dx) ∧ C ∈ Cs ∧ fldD f ns ds = some v
def dXfZ (z : Zx) (Cs : List Addr) (f : Str) (te : TE3) : TE3 := fun σ n Q => te σ n fun d n1 => ∃ v, XfZ z Cs f d v ∧ Q v n1
theorem d_xfZ (hz : ZOk X z) (T : ∀ C ∈ Cs, XfC X.K C ∧ PySem.W.findIn X.K (.ref C) f = some none) (he : DE X e te) (hb : attributeBase e f X.env (eval e X.env) = eval e X.env := by rfl) : DE X (.Attribute e f pos) (dXfZ z Cs f te) :=
  .of (pe_xfZ he.pe hb) fun w w0 H0 σ3 σ H Q sr q => teOf.use sr q fun d v w1 H1 s1 r1 ⟨y, hh, q1⟩ => by
    rcases hh with ⟨C, m, ns, ds, ed, hC, el⟩ | ⟨a, C, dx, ns, ds, ed, ez, hC, el⟩
    · subst ed
      unfold DR at r1
      obtain ⟨a, o, od, t, fs, ev, ga, ix, hm, hd, h0, en, tt⟩ := r1
      subst en
      obtain ⟨x, lz, rz⟩ := fld_at tt el
      cases od with
      | none => rw [h0 rfl] at lz; cases lz
      | some dx =>
        obtain ⟨u, gu, iu⟩ := hd dx rfl
        obtain ⟨T1, T2⟩ := T C hC
        exact .inl ⟨a, C, dx, t, o, u, fs, x, ev, s1.ok.gh _ _ ga, ix, T1, T2, s1.ok.gh _ _ gu, iu, lz, w1, y, s1, rz, q1⟩
    · subst ed
      unfold DR at r1
      obtain ⟨fs, ev, hg, en, tt⟩ := r1
      subst en
      obtain ⟨x, lz, rz⟩ := fld_at tt el
      obtain ⟨oe, hp, hz', hf⟩ := hz a C (some dx) ez
      obtain ⟨T1, T2⟩ := T C hC
      exact .inr ⟨a, C, dx, oe, fs, x, ev, hp, hz', hf, T1, T2, s1.ok.gh _ _ hg, lz, w1, y, s1, rz, q1⟩
end
def Fun3Z (P : Program) (w : World) (K : PySem.W.Frag) (mg : PySem.Str → Option Value) (base : Heap) (k : Nat) (f : Addr) (ps : List PySem.Str) (sp : Zx → Sp3) : Prop := ∃ fd, (∀ (p : Addr × Obj) (C : Addr) (d : Option Addr), L2N.Zn (.ref C) d p.2 → (∃ vs, p.2.data = .fields vs) → FnHp p P w K mg base (L2N.CX P w) k f fd ps (spOf (sp (some (p.1, C, d))))) ∧ Binds K fd ps [] ∧ PySem.W.keepIn K (.ref f) = true
section
variable {P : Program} {wd : World} {K : PySem.W.Frag} {mg : PySem.Str → Option Value} {base : Heap} {x qual : PySem.Str} {params : Arguments} {body : List Stmt} {scope : Scope} {dvs : List V} {kws : List (PySem.Str × V)} {f : Addr} {fd : FuncData} {N ps : List PySem.Str} {k : Nat} {p : Addr × Obj}
theorem fn3Z {sp : Sp3} {t : XCt → TS3} (F : FunD K x qual params body scope dvs kws f fd) (S : FnScope N ps scope) (len : ∀ ds n Q Y, sp ds n Q Y → ds.length = ps.length)
    (hbody : ∀ (xc : XCt) (cdv : Value) (A : Around) (outer : List Env) (s : Shared) (H : Hp) (E : XK), Hot1 A p → RoomH k (A.deeper (envOfC qual scope s.heap.objs.size f cdv)) → @DSs xc (cxH (L2N.CX P wd) P wd K mg base N qual scope f cdv A outer s H E p) body (t xc))
    (pure_ : ∀ ds n Q Y, sp ds n Q Y → t ⟨fun e _ n' => Y e n'⟩ { nx := fun _ n' => Q .non n', rt := Q } (start3 N ds) n) : FnHp p P wd K mg base (L2N.CX P wd) (k + 1) f fd ps (spOf sp) := by
  obtain ⟨oc, od, dV, kV, doc, pm, an, cdv, ct, osl, rfl, lk, hcd, _, _⟩ := F.ex
  refine fnHp_of lk hcd S (fun vs H Q E ⟨w, ds, Q3, Y, ok, r, h, _⟩ => by rw [← r.length]; exact len _ _ _ _ h) fun A outer s H vs Q E hot hr ⟨w, ds, Q3, Y, ok, r, h, kk, ke⟩ => ?_
  letI xc : XCt := ⟨fun e _ n' => Y e n'⟩
  have tk : L2N.Takes (cxH (L2N.CX P wd) P wd K mg base N qual scope f cdv A outer s H E p) (fun cls d _ H' => E cls d H') := L2N.takes_of rfl rfl rfl rfl
  exact ⟨_, (hbody xc cdv A outer s H E hot hr).pss, w, ⟨w, w⟩, ⟨H, fun e cls d w' σ3 σ H' sr er y => le_wm tk (ke e cls d w' H' sr.st er y)⟩, start3 N ds, _, SR.start ok r, pure_ ds w.n Q3 Y h, ⟨fun σ' H' ⟨w', σ3', sr', _, q⟩ => kk .non .non w' H' sr'.st dr_non q, fun v H' ⟨w', st, z⟩ => (by
    rcases z with ⟨d, dr, q⟩ | ⟨_, _, q⟩
    · exact kk d v w' H' st dr q
    · exact q.elim), fun _ _ ⟨_, _, _, _, q⟩ => q, fun _ _ ⟨_, _, _, _, q⟩ => q⟩⟩
theorem rmZ_def {cdv : Value} {A : Around} {outer : List Env} {s : Shared} {H : Hp} {E : XK} (hot : Hot1 A p) (hr : RoomH k (A.deeper (envOfC qual scope s.heap.objs.size f cdv))) : RmH k (cxH (L2N.CX P wd) P wd K mg base N qual scope f cdv A outer s H E p) := ⟨hr, ⟨p, hot, List.mem_singleton_self _⟩⟩
theorem zok_def {CX : CXT} {C : Addr} {d : Option Addr} {cdv : Value} {A : Around} {outer : List Env} {s : Shared} {H : Hp} {E : XK} (hz : L2N.Zn (.ref C) d p.2) (hf : ∃ vs, p.2.data = .fields vs) : ZOk (cxH CX P wd K mg base N qual scope f cdv A outer s H E p) (some (p.1, C, d)) := fun a' C' d' e => by
  cases e
  exact ⟨p.2, List.mem_singleton_self _, hz, hf⟩
end
section
variable [XCt] {X : Cx} {a C f : Addr} {d : Option Addr} {oe : Obj} {pn : List (Addr × Obj)} {j k : Nat} {ps : List PySem.Str} {x : PySem.Str} {p pos : Pos} {e : Expr} {es : List Expr} {t : TA3} {sp : Zx → Sp3}
/-- such a def is called in an except suite -/
theorem d_callZ (h : Fun3Z X.prog X.w X.K X.mg X.base j f ps sp) (hr : RmH k (X.suite a ((a, oe) :: pn))) (hz : L2N.Zn (.ref C) d oe) (hf : ∃ vs, oe.data = .fields vs) (hm : X.mg x = some (.ref f)) (ha : DA (X.suite a ((a, oe) :: pn)) (e :: es) t) (hg : Gl (X.suite a ((a, oe) :: pn)) x := by rfl) (hj : j ≤ k := by decide) (hdb : (x == ("__debug__" : Str)) = false := by decide)
    (he : starEach (e :: es) X.env = (false, eval e X.env) :: starEach es X.env := by rfl) (hpl : (backTo pos (starEach es X.env)).any (·.1) = false := by rfl) : DE (X.suite a ((a, oe) :: pn)) (.Call (.Name x p) (e :: es) [] pos) (dCall (sp (some (a, C, d))) [] t) := by
  obtain ⟨fd, F, b, kp⟩ := h
  have hot : Hot1 (X.suite a ((a, oe) :: pn)).A (a, oe) := ⟨rfl, by obtain ⟨vs, e⟩ := hf; exact ⟨vs, e, hz.2.2 vs e⟩⟩
  exact .of (pe_callHp (X := X.suite a ((a, oe) :: pn)) (F (a, oe) C d hz hf) (hr.r.mono hj) hot List.mem_cons_self hg hm kp b passW ha.pa hdb he hpl) fun w w0 H0 σ3 σ H Q sr q => taOf.use sr q fun ds vs w1 H1 s1 r1 q1 =>
    ⟨w1, ds, _, _, s1.ok, r1, (by rw [List.append_nil] at q1; exact q1), fun d v w' H' st dr q' => ⟨w', d, s1.trans st, dr, q'⟩, fun e cls dx w' H' st er y => H0.xl e cls dx w' σ3 σ H' ((sr.step s1).step st) er y⟩
end
end L3
namespace L3
open PySem PySem.Spec PyProof.Rows L2 L2H HotX
section
variable [XCt] {X : Cx} {tg a : Expr} {te : TE3} {p pos : Pos}
theorem di_range1H (hg : Gl X "range") (hm : X.mg "range" = none) (h : DE X a te) (hs : starEach [a] X.env = [(false, eval a X.env)] := by rfl) : DIH X tg (.Call (.Name "range" p) [a] [] pos) (iRange1 te) :=
  ⟨PIH.imp (pi_range1H hg hm (pa_cons h.pe pa_nil hs) hs) fun σ H R ⟨w, w0, H0, σ3, Q, sr, q, k⟩ => teOf.use sr q fun d v w1 H1 s r ⟨j, ed, b1, b2, q1⟩ => by
    subst ed
    unfold DR at r
    subst r
    exact ⟨j, rfl, b1, b2, k _ _ _ w1 H1 s (jt_range 0 j.toNat) q1⟩⟩
end
end L3
set_option Elab.async false
set_option linter.all false
set_option maxRecDepth 100000
set_option maxHeartbeats 1000000
namespace L3
open PySem PySem.Spec PyProof.Rows L2
instance {K : PySem.W.Frag} : MoC (rReprX3 K) := ⟨fun h ⟨d, t, e, r, q⟩ => ⟨d, t, e, r, h _ _ q⟩⟩
def mkXM (C : Addr) (f m : Str) (d : D) : MP D := pure (.exd C (some m) [f] [d])
def mk0M (C : Addr) (_ : D) : MP D := pure (.exd C none [] [])
def xfZM (z : Zx) (Cs : List Addr) (f : Str) (d : D) : MP D := ⟨fun m K _ => ∃ v, XfZ z Cs f d v ∧ K v m, fun h _ ⟨a, b, q⟩ => ⟨a, b, h _ _ q⟩⟩
section
variable [XCt] {σ : St3} {ta tb te : TE3} {x y : MP D} {ts : TA3} {xs : MP (List D)} {C : Addr} {f m : Str} {z : Zx} {Cs : List Addr}
theorem ev_mkX (h : Ev1 te σ x) : Ev1 (dMkX C f m te) σ (x >>= mkXM C f m) := fun m Q q => h.go q fun _ _ q => q
theorem ev_mk0 (h : Ev1 te σ x) : Ev1 (dMk0 C te) σ (x >>= mk0M C) := fun m Q q => h.go q fun _ _ q => q
theorem ev_xfZ (h : Ev1 te σ x) : Ev1 (dXfZ z Cs f te) σ (x >>= xfZM z Cs f) := fun m Q q => h.go q fun _ _ q => q
theorem ev_mkK (h : Ev1 ts σ xs) : Ev1 (dMkK C f m ts) σ (xs >>= cl1 (mkXM C f m)) := fun m' Q q => h.go q fun es _ q => by
  obtain ⟨d, rfl, q⟩ := cl1_inv q
  exact ⟨d, rfl, q⟩
end
section
variable [XCt] {R : Type} {K : R → Mem → Prop} {X : X3} {E : Ends3} {σ : St3} {u : TS3} {ts : TA3} {xs : MP (List D)}
theorem s_raiseK {C : Addr} {f : Str} (hx : XLe X σ) (h : Ev1 ts σ xs) : EvS K X (dSeq (dRaiseK C f ts) u) E σ (xs >>= cl1 fun d => (MP.raise ⟨C, [f], [d]⟩ : MP R)) := ⟨fun m q => h m _ (xs.mono (fun es m' q => by
  obtain ⟨d, rfl, q⟩ := cl1_inv q
  exact ⟨d, rfl, hx _ m' q⟩) (fun e m' q => hx e m' q) q)⟩
end
end L3
namespace He
open PySem PySem.Spec PyProof.Rows L2 L3
def exzB (K : PySem.W.Frag) (x : Str) : Bool := PySem.W.excIn K (ga K x) [.type "ValueError", .type "Exception", .type "BaseException", .type "object"] "ValueError.__new__" && PySem.W.keepIn K (.ref (ga K x))
theorem exzB_ok {K : PySem.W.Frag} {x : Str} (h : exzB K x = true) : Exz K (ga K x) := by
  obtain ⟨h1, h2⟩ := Bool.and_eq_true_iff.mp h
  exact ⟨h1, h2⟩
end He
set_option Elab.async false
set_option linter.all false
set_option maxRecDepth 100000
set_option maxHeartbeats 1000000
namespace W
open PySem PySem.Spec PyProof.Rows L2 L3 He
def xc_at (K : PySem.W.Frag) : List Addr := [ga K "NoSign", ga K "Beyond", ga K "NotOrdered", ga K "NotSame", ga K "NoStep"]
def xc_found (K : PySem.W.Frag) : List Addr := [ga K "NoWords", ga K "NoNumber", ga K "NoSigns", ga K "NoTerm", ga K "Unlike", ga K "NoOrder", ga K "NoWeights", ga K "NoNames", ga K "NotAdmitted", ga K "NoEquations", ga K "NotGround", ga K "Unfinished", ga K "NotLinear", ga K "NoMakers", ga K "NoCompleting", ga K "NoModel"]
def xl_TermError (K : PySem.W.Frag) : List (Addr × Bool) := [(ga K "NoWords", true), (ga K "NoSign", true), (ga K "Beyond", true), (ga K "Unended", true), (ga K "NoNumber", true), (ga K "NoSigns", true), (ga K "NoTerm", true), (ga K "Unlike", true), (ga K "TooGreat", true), (ga K "NoOrder", true), (ga K "NoWeights", true), (ga K "NoNames", true), (ga K "NotAdmitted", true), (ga K "NoEquations", true), (ga K "NotGround", true), (ga K "NotOrdered", true), (ga K "NotSame", true), (ga K "NoStep", true), (ga K "Unfinished", true), (ga K "NotLinear", true), (ga K "NoMakers", true), (ga K "NoCompleting", true), (ga K "NoModel", true)]
def m__law_cell (K : PySem.W.Frag) (script0 : D) (k'0 : D) : MP D :=
  (ifE (ap2 (pure k'0) ((consA (pure script0) (pure [])) >>= cbM (cDer (rLen3 K))) (opM (rDer (rCmp3 fun i j => decide (i < j)))) >>= asB) (ap2 (pure script0) (pure k'0) (opM (rDer (rIxA3 K)))) (ap2 (ap2 (pure (.int 15485933)) (pure k'0) (opM (rDer rMul3))) (pure (.int 17)) (opM (rDer rAdd3))))
def sp__law_cell (K : PySem.W.Frag) : Sp3 := sp2 (m__law_cell K)
def m__law_box (K : PySem.W.Frag) (cell0 : D) : MP D :=
  (((consA ((consA (pure (.int 0)) (consA (ap2 ((consA (pure cell0) (pure [])) >>= cbM (cDer rAbs3)) (ap2 (pure (.int 10)) (pure (.int 18)) (opM (rDer rPow3))) (opM (rDer rSub3))) (pure []))) >>= cbM (cDer (rInt23 fun i j => if j > i then j else i))) (consA (ap2 ((consA (pure cell0) (pure [])) >>= cbM (cDer rAbs3)) (pure (.int 2147483629)) (opM (rDer rMod3))) (consA (pure (.int 0)) (pure [])))) >>= lstM) >>= boxM)
def sp__law_box (K : PySem.W.Frag) : Sp3 := sp1 (m__law_box K)
def m__law_take (K : PySem.W.Frag) (box0 : D) (many0 : D) : MP D :=
  ((ap2 ((pure box0) >>= boxIxM 0) (pure (.int 0)) (opM (rDer (rCmp3 fun i j => decide (j < i)))) >>= asB) >>= fun b => if b = true then ((ap2 ((pure box0) >>= boxIxM 0) (pure many0) (opM (rDer rMod3))) >>= fun digit1 => (isBox box0 >>= fun _ => (ap2 ((pure box0) >>= boxIxM 0) (pure many0) (opM (rDer rDiv3))) >>= fun d => boxSetM 0 d >>= fun _ => (pure digit1))) else (isBox box0 >>= fun _ => (ap2 ((pure box0) >>= boxIxM 2) (pure (.int 1)) (opM (rDer rAdd3))) >>= fun d => boxSetM 2 d >>= fun _ => ((ap2 (ap2 (ap2 (ap2 ((pure box0) >>= boxIxM 1) (ap2 (pure (.int 7919)) ((pure box0) >>= boxIxM 2) (opM (rDer rMul3))) (opM (rDer rAdd3))) (pure (.int 17)) (opM (rDer rAdd3))) (pure (.int 5)) (opM (rDer rPow3))) (pure (.int 2147483647)) (opM (rDer rMod3))) >>= fun number2 => ((ap2 (ap2 (ap2 (pure number2) (ap2 (pure (.int 104729)) ((pure box0) >>= boxIxM 2) (opM (rDer rMul3))) (opM (rDer rAdd3))) (pure (.int 3)) (opM (rDer rPow3))) (pure (.int 2147483587)) (opM (rDer rMod3))) >>= fun number3 => (ap2 (ap2 (pure number3) (pure (.int 16)) (opM (rDer rDiv3))) (pure many0) (opM (rDer rMod3)))))))
def sp__law_take (K : PySem.W.Frag) : Sp3 := sp2 (m__law_take K)
def m__law_very (K : PySem.W.Frag) (given0 : D) (thing0 : D) : MP D :=
  (Jn (fun (s1 : Unit) => (Jn (fun (s4 : Unit) => (ap2 ((consA (pure given0) (pure [])) >>= cbM (cDer (rReprX3 K))) ((consA (pure thing0) (pure [])) >>= cbM (cDer (rReprX3 K))) (opM (rDer (rEqA3 false))))) fun j5 => (((consA (pure thing0) (consA (pure (.raw (.ty "dict"))) (pure []))) >>= cbM (cDer (rIsi3 (pZ K none (.type "dict") (pB D.isDct (Cs_ K))) (.ty "dict")))) >>= asB) >>= fun b => if b = true then ((pure (.int 1)) >>= fun d => (pure thing0) >>= fun c => isCel c >>= fun _ => (pure (.str "more")) >>= fun j => setKCM c j d >>= fun _ => (j5 ())) else (j5 ()))) fun j2 => (((consA (pure thing0) (consA (pure (.raw (.ty "list"))) (pure []))) >>= cbM (cDer (rIsi3 (pZ K none (.type "list") (pB D.isLst (Cs_ K))) (.ty "list")))) >>= asB) >>= fun b => if b = true then ((pure thing0) >>= fun c => isCelL c >>= fun _ => (pure (.str "more")) >>= fun d => appCM c d >>= fun _ => (j2 ())) else (j2 ()))
def sp__law_very (K : PySem.W.Frag) : Sp3 := sp2 (m__law_very K)
def m__law_by_place (K : PySem.W.Frag) (one0 : D) : MP D :=
  ((eNM ((consA ((pure one0) >>= mkXM (ga K "NoOrder") "found" "no order") (consA ((pure one0) >>= mkXM (ga K "NoWeights") "found" "no list of weights") (consA ((pure one0) >>= mkXM (ga K "NoNames") "found" "no list of all names") (consA ((pure one0) >>= mkXM (ga K "NotAdmitted") "found" "a word that breaks the conditions of an order") (consA ((pure one0) >>= mkXM (ga K "NoEquations") "found" "no list of equations") (pure [])))))) >>= lstM)) >>= fun found1 => ((ap2 (pure found1) (eNM ((consA ((pure one0) >>= mkXM (ga K "NotGround") "found" "a term with letters") (consA ((pure one0) >>= mkXM (ga K "NotOrdered") "at" "sides of which neither is greater") (consA ((pure one0) >>= mkXM (ga K "NotSame") "at" "sides that are not the same") (consA ((pure one0) >>= mkXM (ga K "NoStep") "at" "nothing that can be rewritten") (consA ((pure one0) >>= mkXM (ga K "Unfinished") "found" "a completion that is not finished") (pure [])))))) >>= lstM)) (opM (rDer rAdd3))) >>= fun found2 => ((ap2 (pure found2) (eNM ((consA ((pure one0) >>= mkXM (ga K "NotLinear") "found" "a pattern with a letter that stands twice") (consA ((pure one0) >>= mkXM (ga K "NoMakers") "found" "no list of makers") (consA ((pure one0) >>= mkXM (ga K "NoCompleting") "found" "no completion") (consA ((pure one0) >>= mkXM (ga K "NoModel") "found" "no model") (pure []))))) >>= lstM)) (opM (rDer rAdd3))) >>= fun found3 => (pure found3))))
def sp__law_by_place (K : PySem.W.Frag) : Sp3 := sp1 (m__law_by_place K)
def m__law_by_name (K : PySem.W.Frag) (one0 : D) : MP D :=
  ((eNM ((consA ((consA (pure one0) (pure [])) >>= cl1 (mkXM (ga K "NoOrder") "found" "no order")) (consA ((consA (pure one0) (pure [])) >>= cl1 (mkXM (ga K "NoWeights") "found" "no list of weights")) (consA ((consA (pure one0) (pure [])) >>= cl1 (mkXM (ga K "NoNames") "found" "no list of all names")) (consA ((consA (pure one0) (pure [])) >>= cl1 (mkXM (ga K "NotAdmitted") "found" "a word that breaks the conditions of an order")) (pure []))))) >>= lstM)) >>= fun found1 => ((ap2 (pure found1) (eNM ((consA ((consA (pure one0) (pure [])) >>= cl1 (mkXM (ga K "NoEquations") "found" "no list of equations")) (consA ((consA (pure one0) (pure [])) >>= cl1 (mkXM (ga K "NotGround") "found" "a term with letters")) (consA ((consA (pure one0) (pure [])) >>= cl1 (mkXM (ga K "NotOrdered") "at" "sides of which neither is greater")) (consA ((consA (pure one0) (pure [])) >>= cl1 (mkXM (ga K "NotSame") "at" "sides that are not the same")) (pure []))))) >>= lstM)) (opM (rDer rAdd3))) >>= fun found2 => ((ap2 (pure found2) (eNM ((consA ((consA (pure one0) (pure [])) >>= cl1 (mkXM (ga K "NoStep") "at" "nothing that can be rewritten")) (consA ((consA (pure one0) (pure [])) >>= cl1 (mkXM (ga K "Unfinished") "found" "a completion that is not finished")) (consA ((consA (pure one0) (pure [])) >>= cl1 (mkXM (ga K "NotLinear") "found" "a pattern with a letter that stands twice")) (consA ((consA (pure one0) (pure [])) >>= cl1 (mkXM (ga K "NoMakers") "found" "no list of makers")) (pure []))))) >>= lstM)) (opM (rDer rAdd3))) >>= fun found3 => ((ap2 (pure found3) (eNM ((consA ((consA (pure one0) (pure [])) >>= cl1 (mkXM (ga K "NoCompleting") "found" "no completion")) (consA ((consA (pure one0) (pure [])) >>= cl1 (mkXM (ga K "NoModel") "found" "no model")) (pure []))) >>= lstM)) (opM (rDer rAdd3))) >>= fun found4 => (pure found4)))))
def sp__law_by_name (K : PySem.W.Frag) : Sp3 := sp1 (m__law_by_name K)
def m__law_sorts (z : Zx) (K : PySem.W.Frag) (e'0 : D) : MP D :=
  ((eNM ((consA ((consA (pure e'0) (consA (pure (.raw (.ref (ga K "NoOrder")))) (pure []))) >>= cbM (cDer (rIsi3 (pZ K z (.ref (ga K "NoOrder")) (fun _ => none)) (.ref (ga K "NoOrder"))))) (consA ((consA (pure e'0) (consA (pure (.raw (.ref (ga K "NoWeights")))) (pure []))) >>= cbM (cDer (rIsi3 (pZ K z (.ref (ga K "NoWeights")) (fun _ => none)) (.ref (ga K "NoWeights"))))) (consA ((consA (pure e'0) (consA (pure (.raw (.ref (ga K "NoNames")))) (pure []))) >>= cbM (cDer (rIsi3 (pZ K z (.ref (ga K "NoNames")) (fun _ => none)) (.ref (ga K "NoNames"))))) (pure [])))) >>= lstM)) >>= fun found1 => ((ap2 (pure found1) (eNM ((consA ((consA (pure e'0) (consA (pure (.raw (.ref (ga K "NotAdmitted")))) (pure []))) >>= cbM (cDer (rIsi3 (pZ K z (.ref (ga K "NotAdmitted")) (fun _ => none)) (.ref (ga K "NotAdmitted"))))) (consA ((consA (pure e'0) (consA (pure (.raw (.ref (ga K "NoEquations")))) (pure []))) >>= cbM (cDer (rIsi3 (pZ K z (.ref (ga K "NoEquations")) (fun _ => none)) (.ref (ga K "NoEquations"))))) (consA ((consA (pure e'0) (consA (pure (.raw (.ref (ga K "NotGround")))) (pure []))) >>= cbM (cDer (rIsi3 (pZ K z (.ref (ga K "NotGround")) (fun _ => none)) (.ref (ga K "NotGround"))))) (pure [])))) >>= lstM)) (opM (rDer rAdd3))) >>= fun found2 => ((ap2 (pure found2) (eNM ((consA ((consA (pure e'0) (consA (pure (.raw (.ref (ga K "NotOrdered")))) (pure []))) >>= cbM (cDer (rIsi3 (pZ K z (.ref (ga K "NotOrdered")) (fun _ => none)) (.ref (ga K "NotOrdered"))))) (consA ((consA (pure e'0) (consA (pure (.raw (.ref (ga K "NotSame")))) (pure []))) >>= cbM (cDer (rIsi3 (pZ K z (.ref (ga K "NotSame")) (fun _ => none)) (.ref (ga K "NotSame"))))) (consA ((consA (pure e'0) (consA (pure (.raw (.ref (ga K "NoStep")))) (pure []))) >>= cbM (cDer (rIsi3 (pZ K z (.ref (ga K "NoStep")) (fun _ => none)) (.ref (ga K "NoStep"))))) (pure [])))) >>= lstM)) (opM (rDer rAdd3))) >>= fun found3 => ((ap2 (pure found3) (eNM ((consA ((consA (pure e'0) (consA (pure (.raw (.ref (ga K "Unfinished")))) (pure []))) >>= cbM (cDer (rIsi3 (pZ K z (.ref (ga K "Unfinished")) (fun _ => none)) (.ref (ga K "Unfinished"))))) (consA ((consA (pure e'0) (consA (pure (.raw (.ref (ga K "NotLinear")))) (pure []))) >>= cbM (cDer (rIsi3 (pZ K z (.ref (ga K "NotLinear")) (fun _ => none)) (.ref (ga K "NotLinear"))))) (consA ((consA (pure e'0) (consA (pure (.raw (.ref (ga K "NoMakers")))) (pure []))) >>= cbM (cDer (rIsi3 (pZ K z (.ref (ga K "NoMakers")) (fun _ => none)) (.ref (ga K "NoMakers"))))) (pure [])))) >>= lstM)) (opM (rDer rAdd3))) >>= fun found4 => ((ap2 (pure found4) (eNM ((consA ((consA (pure e'0) (consA (pure (.raw (.ref (ga K "NoCompleting")))) (pure []))) >>= cbM (cDer (rIsi3 (pZ K z (.ref (ga K "NoCompleting")) (fun _ => none)) (.ref (ga K "NoCompleting"))))) (consA ((consA (pure e'0) (consA (pure (.raw (.ref (ga K "NoModel")))) (pure []))) >>= cbM (cDer (rIsi3 (pZ K z (.ref (ga K "NoModel")) (fun _ => none)) (.ref (ga K "NoModel"))))) (pure []))) >>= lstM)) (opM (rDer rAdd3))) >>= fun found5 => (pure found5))))))
def sp__law_sorts (z : Zx) (K : PySem.W.Frag) : Sp3 := sp1 (m__law_sorts z K)
def m__law_others (K : PySem.W.Frag) (e'0 : D) : MP D :=
  ((eNM ((consA ((consA (pure e'0) (consA (pure (.raw (.ref (ga K "NoName")))) (pure []))) >>= cbM (cDer (rIsi3 (pZ K none (.ref (ga K "NoName")) (fun _ => none)) (.ref (ga K "NoName"))))) (consA ((consA (pure e'0) (consA (pure (.raw (.ref (ga K "NoWords")))) (pure []))) >>= cbM (cDer (rIsi3 (pZ K none (.ref (ga K "NoWords")) (fun _ => none)) (.ref (ga K "NoWords"))))) (consA ((consA (pure e'0) (consA (pure (.raw (.ref (ga K "NoSigns")))) (pure []))) >>= cbM (cDer (rIsi3 (pZ K none (.ref (ga K "NoSigns")) (fun _ => none)) (.ref (ga K "NoSigns"))))) (pure [])))) >>= lstM)) >>= fun found1 => ((ap2 (pure found1) (eNM ((consA ((consA (pure e'0) (consA (pure (.raw (.ref (ga K "NoSign")))) (pure []))) >>= cbM (cDer (rIsi3 (pZ K none (.ref (ga K "NoSign")) (fun _ => none)) (.ref (ga K "NoSign"))))) (consA ((consA (pure e'0) (consA (pure (.raw (.ref (ga K "NoWord")))) (pure []))) >>= cbM (cDer (rIsi3 (pZ K none (.ref (ga K "NoWord")) (fun _ => none)) (.ref (ga K "NoWord"))))) (consA ((consA (pure e'0) (consA (pure (.raw (.ref (ga K "Beyond")))) (pure []))) >>= cbM (cDer (rIsi3 (pZ K none (.ref (ga K "Beyond")) (fun _ => none)) (.ref (ga K "Beyond"))))) (pure [])))) >>= lstM)) (opM (rDer rAdd3))) >>= fun found2 => ((ap2 (pure found2) (eNM ((consA ((consA (pure e'0) (consA (pure (.raw (.ref (ga K "Unended")))) (pure []))) >>= cbM (cDer (rIsi3 (pZ K none (.ref (ga K "Unended")) (fun _ => none)) (.ref (ga K "Unended"))))) (consA ((consA (pure e'0) (consA (pure (.raw (.ref (ga K "NoTerm")))) (pure []))) >>= cbM (cDer (rIsi3 (pZ K none (.ref (ga K "NoTerm")) (fun _ => none)) (.ref (ga K "NoTerm"))))) (consA ((consA (pure e'0) (consA (pure (.raw (.ref (ga K "NoTerms")))) (pure []))) >>= cbM (cDer (rIsi3 (pZ K none (.ref (ga K "NoTerms")) (fun _ => none)) (.ref (ga K "NoTerms"))))) (pure [])))) >>= lstM)) (opM (rDer rAdd3))) >>= fun found3 => ((ap2 (pure found3) (eNM ((consA ((consA (pure e'0) (consA (pure (.raw (.ref (ga K "NoLetter")))) (pure []))) >>= cbM (cDer (rIsi3 (pZ K none (.ref (ga K "NoLetter")) (fun _ => none)) (.ref (ga K "NoLetter"))))) (consA ((consA (pure e'0) (consA (pure (.raw (.ref (ga K "NoPairs")))) (pure []))) >>= cbM (cDer (rIsi3 (pZ K none (.ref (ga K "NoPairs")) (fun _ => none)) (.ref (ga K "NoPairs"))))) (consA ((consA (pure e'0) (consA (pure (.raw (.ref (ga K "NoPutting")))) (pure []))) >>= cbM (cDer (rIsi3 (pZ K none (.ref (ga K "NoPutting")) (fun _ => none)) (.ref (ga K "NoPutting"))))) (pure [])))) >>= lstM)) (opM (rDer rAdd3))) >>= fun found4 => ((ap2 (pure found4) (eNM ((consA ((consA (pure e'0) (consA (pure (.raw (.ref (ga K "NoWay")))) (pure []))) >>= cbM (cDer (rIsi3 (pZ K none (.ref (ga K "NoWay")) (fun _ => none)) (.ref (ga K "NoWay"))))) (consA ((consA (pure e'0) (consA (pure (.raw (.ref (ga K "NoNumber")))) (pure []))) >>= cbM (cDer (rIsi3 (pZ K none (.ref (ga K "NoNumber")) (fun _ => none)) (.ref (ga K "NoNumber"))))) (consA ((consA (pure e'0) (consA (pure (.raw (.ref (ga K "NoTruth")))) (pure []))) >>= cbM (cDer (rIsi3 (pZ K none (.ref (ga K "NoTruth")) (fun _ => none)) (.ref (ga K "NoTruth"))))) (pure [])))) >>= lstM)) (opM (rDer rAdd3))) >>= fun found5 => ((ap2 (pure found5) (eNM ((consA ((consA (pure e'0) (consA (pure (.raw (.ref (ga K "NoNote")))) (pure []))) >>= cbM (cDer (rIsi3 (pZ K none (.ref (ga K "NoNote")) (fun _ => none)) (.ref (ga K "NoNote"))))) (consA ((consA (pure e'0) (consA (pure (.raw (.ref (ga K "NoList")))) (pure []))) >>= cbM (cDer (rIsi3 (pZ K none (.ref (ga K "NoList")) (fun _ => none)) (.ref (ga K "NoList"))))) (consA ((consA (pure e'0) (consA (pure (.raw (.ref (ga K "NoAsk")))) (pure []))) >>= cbM (cDer (rIsi3 (pZ K none (.ref (ga K "NoAsk")) (fun _ => none)) (.ref (ga K "NoAsk"))))) (pure [])))) >>= lstM)) (opM (rDer rAdd3))) >>= fun found6 => ((ap2 (pure found6) (eNM ((consA ((consA (pure e'0) (consA (pure (.raw (.ref (ga K "NoRule")))) (pure []))) >>= cbM (cDer (rIsi3 (pZ K none (.ref (ga K "NoRule")) (fun _ => none)) (.ref (ga K "NoRule"))))) (consA ((consA (pure e'0) (consA (pure (.raw (.ref (ga K "NoRules")))) (pure []))) >>= cbM (cDer (rIsi3 (pZ K none (.ref (ga K "NoRules")) (fun _ => none)) (.ref (ga K "NoRules"))))) (consA ((consA (pure e'0) (consA (pure (.raw (.ref (ga K "NoRow")))) (pure []))) >>= cbM (cDer (rIsi3 (pZ K none (.ref (ga K "NoRow")) (fun _ => none)) (.ref (ga K "NoRow"))))) (pure [])))) >>= lstM)) (opM (rDer rAdd3))) >>= fun found7 => ((ap2 (pure found7) (eNM ((consA ((consA (pure e'0) (consA (pure (.raw (.ref (ga K "NoShelf")))) (pure []))) >>= cbM (cDer (rIsi3 (pZ K none (.ref (ga K "NoShelf")) (fun _ => none)) (.ref (ga K "NoShelf"))))) (consA ((consA (pure e'0) (consA (pure (.raw (.ref (ga K "NoDeed")))) (pure []))) >>= cbM (cDer (rIsi3 (pZ K none (.ref (ga K "NoDeed")) (fun _ => none)) (.ref (ga K "NoDeed"))))) (consA ((consA (pure e'0) (consA (pure (.raw (.ref (ga K "NoText")))) (pure []))) >>= cbM (cDer (rIsi3 (pZ K none (.ref (ga K "NoText")) (fun _ => none)) (.ref (ga K "NoText"))))) (pure [])))) >>= lstM)) (opM (rDer rAdd3))) >>= fun found8 => ((ap2 (pure found8) (eNM ((consA ((consA (pure e'0) (consA (pure (.raw (.ref (ga K "NoLine")))) (pure []))) >>= cbM (cDer (rIsi3 (pZ K none (.ref (ga K "NoLine")) (fun _ => none)) (.ref (ga K "NoLine"))))) (consA ((consA (pure e'0) (consA (pure (.raw (.ref (ga K "Unlike")))) (pure []))) >>= cbM (cDer (rIsi3 (pZ K none (.ref (ga K "Unlike")) (fun _ => none)) (.ref (ga K "Unlike"))))) (consA ((consA (pure e'0) (consA (pure (.raw (.ref (ga K "Twice")))) (pure []))) >>= cbM (cDer (rIsi3 (pZ K none (.ref (ga K "Twice")) (fun _ => none)) (.ref (ga K "Twice"))))) (pure [])))) >>= lstM)) (opM (rDer rAdd3))) >>= fun found9 => ((ap2 (pure found9) (eNM ((consA ((consA (pure e'0) (consA (pure (.raw (.ref (ga K "TooMany")))) (pure []))) >>= cbM (cDer (rIsi3 (pZ K none (.ref (ga K "TooMany")) (fun _ => none)) (.ref (ga K "TooMany"))))) (consA ((consA (pure e'0) (consA (pure (.raw (.ref (ga K "TooGreat")))) (pure []))) >>= cbM (cDer (rIsi3 (pZ K none (.ref (ga K "TooGreat")) (fun _ => none)) (.ref (ga K "TooGreat"))))) (consA ((consA (pure e'0) (consA (pure (.raw (.ref (ga K "NotThere")))) (pure []))) >>= cbM (cDer (rIsi3 (pZ K none (.ref (ga K "NotThere")) (fun _ => none)) (.ref (ga K "NotThere"))))) (pure [])))) >>= lstM)) (opM (rDer rAdd3))) >>= fun found10 => ((ap2 (pure found10) (eNM ((consA ((consA (pure e'0) (consA (pure (.raw (.ref (ga K "NoSpot")))) (pure []))) >>= cbM (cDer (rIsi3 (pZ K none (.ref (ga K "NoSpot")) (fun _ => none)) (.ref (ga K "NoSpot"))))) (consA ((consA (pure e'0) (consA (pure (.raw (.ref (ga K "NoMore")))) (pure []))) >>= cbM (cDer (rIsi3 (pZ K none (.ref (ga K "NoMore")) (fun _ => none)) (.ref (ga K "NoMore"))))) (consA ((consA (pure e'0) (consA (pure (.raw (.ref (ga K "Changed")))) (pure []))) >>= cbM (cDer (rIsi3 (pZ K none (.ref (ga K "Changed")) (fun _ => none)) (.ref (ga K "Changed"))))) (pure [])))) >>= lstM)) (opM (rDer rAdd3))) >>= fun found11 => ((ap2 (pure found11) (eNM ((consA ((consA (pure e'0) (consA (pure (.raw (.ref (ga K "Endless")))) (pure []))) >>= cbM (cDer (rIsi3 (pZ K none (.ref (ga K "Endless")) (fun _ => none)) (.ref (ga K "Endless"))))) (consA ((consA (pure e'0) (consA (pure (.raw (.ref (ga K "Absent")))) (pure []))) >>= cbM (cDer (rIsi3 (pZ K none (.ref (ga K "Absent")) (fun _ => none)) (.ref (ga K "Absent"))))) (consA ((consA (pure e'0) (consA (pure (.raw (.ref (ga K "Ended")))) (pure []))) >>= cbM (cDer (rIsi3 (pZ K none (.ref (ga K "Ended")) (fun _ => none)) (.ref (ga K "Ended"))))) (pure [])))) >>= lstM)) (opM (rDer rAdd3))) >>= fun found12 => (pure found12)))))))))))))
def sp__law_others (K : PySem.W.Frag) : Sp3 := sp1 (m__law_others K)
def m__law_field (z : Zx) (K : PySem.W.Frag) (e'0 : D) (place0 : D) : MP D :=
  (ifE (ap2 (pure place0) ((consA (pure (.int 6)) (consA (pure (.int 7)) (consA (pure (.int 8)) (pure [])))) >>= tupM) (opM (rDer (rInA3 false))) >>= asB) ((pure e'0) >>= xfZM z (xc_at K) "at") ((pure e'0) >>= xfZM z (xc_found K) "found"))
def sp__law_field (z : Zx) (K : PySem.W.Frag) : Sp3 := sp2 (m__law_field z K)
def m__law_thing (K : PySem.W.Frag) (box0 : D) : MP D :=
  ((eNM ((consA (pure .non) (consA (pure (.bl true)) (consA (pure (.bl false)) (consA (pure (.int 0)) (consA ((pure (.int 7)) >>= negM) (consA (ap2 (pure (.int 10)) (pure (.int 29)) (opM (rDer rPow3))) (consA (pure (.str "")) (consA (pure (.str "f A")) (consA (((pure []) >>= lstM) >>= celM) (consA (((consA (pure (.str "a")) (consA (eNM ((consA (pure (.int 1)) (pure [])) >>= lstM)) (pure []))) >>= lstM) >>= celM) (consA ((pure []) >>= tupM) (consA ((consA (pure (.int 1)) (consA (pure (.bl true)) (pure []))) >>= tupM) (consA ((pure (.dk [] [])) >>= celM) (consA ((ap2 (pure (.str "a")) (eNM ((consA (pure (.int 3)) (pure [])) >>= lstM)) disp1M) >>= celM) (consA (((consA (pure .non) (pure [])) >>= lstM) >>= celM) (consA ((pure (.int 3)) >>= mkXM (ga K "NoTerm") "found" "no term") (pure []))))))))))))))))) >>= lstM)) >>= fun some'1 => (ap2 (pure some'1) ((consA (pure box0) (consA (pure (.int 16)) (pure []))) >>= cl2 (m__law_take K)) (opM (rDer (rIxA3 K)))))
def sp__law_thing (K : PySem.W.Frag) : Sp3 := sp1 (m__law_thing K)
def m__law_caught (K : PySem.W.Frag) (way0 : D) (one0 : D) : MP D :=
  ((eNM ((consA (pure (.int 0)) (consA (pure (.int 6)) (consA (pure (.int 8)) (consA (pure (.int 9)) (consA (pure (.int 13)) (pure [])))))) >>= lstM)) >>= fun places1 => (Jn (fun (s2 : Unit) => MP.bad) fun j3 => (tryM ((ap2 (pure way0) (pure (.int 0)) (opM (rDer (rEqA3 false))) >>= asB) >>= fun b => if b = true then ((pure one0) >>= fun d => MP.raise ⟨ga K "NoOrder", ["found"], [d]⟩) else ((ap2 (pure way0) (pure (.int 1)) (opM (rDer (rEqA3 false))) >>= asB) >>= fun b => if b = true then ((consA (pure one0) (pure [])) >>= cl1 fun d => MP.raise ⟨ga K "NotOrdered", ["at"], [d]⟩) else ((ap2 (pure way0) (pure (.int 2)) (opM (rDer (rEqA3 false))) >>= asB) >>= fun b => if b = true then ((pure one0) >>= fun d => MP.raise ⟨ga K "NoStep", ["at"], [d]⟩) else ((ap2 (pure way0) (pure (.int 3)) (opM (rDer (rEqA3 false))) >>= asB) >>= fun b => if b = true then ((consA (pure one0) (pure [])) >>= cl1 fun d => MP.raise ⟨ga K "Unfinished", ["found"], [d]⟩) else ((pure one0) >>= fun d => MP.raise ⟨ga K "NoModel", ["found"], [d]⟩))))) (hdM (mtL (xl_TermError K)) (fun a C d x => ((andV (ap2 ((consA (pure x) (pure [])) >>= cl1 (m__law_sorts (some (a, C, d)) K)) (eNM (lcM ((pure (.int 14)) >>= itRange) (fun k'6 => (lcB (pure true) (ap2 (pure k'6) (ap2 (pure places1) (pure way0) (opM (rDer (rIxA3 K)))) (opM (rDer (rEqA3 false)))))))) (opM (rDer (rEqA3 false)))) (ap2 ((consA ((consA (pure x) (consA (ap2 (pure places1) (pure way0) (opM (rDer (rIxA3 K)))) (pure []))) >>= cl2 (m__law_field (some (a, C, d)) K)) (pure [])) >>= cbM (cDer (rReprX3 K))) ((consA (pure one0) (pure [])) >>= cbM (cDer (rReprX3 K))) (opM (rDer (rEqA3 false))))) >>= fun d => pure (Ctl.rt d))) (fun e => MP.raise e)) (fun c => match c with | .nx s => j3 s | .rt d => pure d | .bk => MP.bad | .ct => MP.bad))))
def sp__law_caught (K : PySem.W.Frag) : Sp3 := sp2 (m__law_caught K)
def m__law_right (K : PySem.W.Frag) (one0 : D) (other0 : D) : MP D :=
  (((consA (pure one0) (pure [])) >>= cl1 (m__law_by_place K)) >>= fun first1 => ((consA (pure other0) (pure [])) >>= cl1 (m__law_by_name K)) >>= fun second2 => (Jn (fun (s44 : Unit) => (eNM (lcM ((pure first1) >>= itEnum) (fun d45 => (unp2 d45 fun place46 e'47 => (lcB (pure true) ((consA ((consA (pure e'47) (consA (pure place46) (pure []))) >>= cl2 (m__law_field none K)) (consA (pure one0) (pure []))) >>= cl2 (m__law_very K)))))) >>= fun last50 => (ap2 (pure (.bl false)) (pure last50) (opM (rDer (rInA3 true)))))) fun j14 => ((pure (.int 14)) >>= itRange) >>= fun it => forK it.P (fun place18 s7 n16 => (Jn (fun (s40 : Unit) => (n16 ())) fun j28 => ((eNM ((consA ((consA (ap2 (pure first1) (pure place18) (opM (rDer (rIxA3 K)))) (consA (pure one0) (pure []))) >>= tupM) (consA ((consA (ap2 (pure second2) (pure place18) (opM (rDer (rIxA3 K)))) (consA (pure other0) (pure []))) >>= tupM) (pure []))) >>= lstM)) >>= itSeq) >>= fun it => forK it.P (fun d32 s19 n30 => (unp2 d32 fun e'33 thing34 => ((cOr (ap2 ((consA (pure e'33) (pure [])) >>= cl1 (m__law_sorts none K)) (eNM (lcM ((pure (.int 14)) >>= itRange) (fun k'35 => (lcB (pure true) (ap2 (pure k'35) (pure place18) (opM (rDer (rEqA3 false)))))))) (opM (rDer (rEqA3 true))) >>= asB) (ap2 (pure (.bl true)) ((consA (pure e'33) (pure [])) >>= cl1 (m__law_others K)) (opM (rDer (rInA3 false))) >>= asB)) >>= fun b => if b = true then (pure (.bl false)) else ((cOr (cNot (((consA (pure e'33) (consA (pure (.raw (.ref (ga K "TermError")))) (pure []))) >>= cbM (cDer (rIsi3 (pZ K none (.ref (ga K "TermError")) (fun _ => none)) (.ref (ga K "TermError"))))) >>= asB)) (cNot (((consA (pure e'33) (consA (pure (.raw (.ty "ValueError"))) (pure []))) >>= cbM (cDer (rIsi3 (pZ K none (.type "ValueError") (fun _ => none)) (.ty "ValueError")))) >>= asB))) >>= fun b => if b = true then (pure (.bl false)) else ((ap2 ((consA ((consA (pure e'33) (consA (pure place18) (pure []))) >>= cl2 (m__law_field none K)) (pure [])) >>= cbM (cDer (rReprX3 K))) ((consA (pure thing34) (pure [])) >>= cbM (cDer (rReprX3 K))) (opM (rDer (rEqA3 true))) >>= asB) >>= fun b => if b = true then (pure (.bl false)) else (n30 ())))))) j28 it.items ())) j14 it.items ()))
def sp__law_right (K : PySem.W.Frag) : Sp3 := sp2 (m__law_right K)
def m_law (K : PySem.W.Frag) (script0 : D) : MP D :=
  (Jn (fun (s39 : Unit) => (pure (.bl true))) fun j15 => (((consA (pure (.int 2)) (consA ((consA (pure (.int 6)) (consA ((consA (pure script0) (pure [])) >>= cbM (cDer (rLen3 K))) (pure []))) >>= cbM (cDer (rInt23 fun i j => if j < i then j else i))) (pure []))) >>= cbM (cDer (rInt23 fun i j => if j > i then j else i))) >>= itRange) >>= fun it => forK it.P (fun k'19 s6 n17 => (((consA ((consA (pure script0) (consA (pure k'19) (pure []))) >>= cl2 (m__law_cell K)) (pure [])) >>= cl1 (m__law_box K)) >>= fun box20 => (Jn (fun (s33 : Unit) => (((pure (.str "no proof")) >>= mk0M (ga K "TermError")) >>= fun e'34 => ((ap2 (pure (.bl true)) (ap2 ((consA (pure e'34) (pure [])) >>= cl1 (m__law_sorts none K)) ((consA (pure e'34) (pure [])) >>= cl1 (m__law_others K)) (opM (rDer rAdd3))) (opM (rDer (rInA3 false))) >>= asB) >>= fun b => if b = true then (pure (.bl false)) else (n17 ())))) fun j26 => ((pure (.int 3)) >>= itRange) >>= fun it => forK it.P (fun turn30 s21 n28 => ((cOr (cNot (((consA ((consA (pure box20) (consA (pure (.int 5)) (pure []))) >>= cl2 (m__law_take K)) (consA ((consA (pure box20) (pure [])) >>= cl1 (m__law_thing K)) (pure []))) >>= cl2 (m__law_caught K)) >>= asB)) (cNot (((consA ((consA (pure box20) (pure [])) >>= cl1 (m__law_thing K)) (consA ((consA (pure box20) (pure [])) >>= cl1 (m__law_thing K)) (pure []))) >>= cl2 (m__law_right K)) >>= asB))) >>= fun b => if b = true then (pure (.bl false)) else (n28 ()))) j26 it.items ()))) j15 it.items ())
def sp_law (K : PySem.W.Frag) : Sp3 := sp1 (m_law K)
end W
set_option Elab.async false
set_option linter.all false
set_option maxRecDepth 100000
set_option maxHeartbeats 1000000
namespace W
open PySem PySem.Spec PyProof.Rows L2
def top (i : Nat) : Stmt := PySem.Challenge.pw_termproofs_k00_errors_of_proofs.main.body.getD i (.Pass ⟨0, 0, 0, 0⟩)
def mth (i j : Nat) : Stmt := match top i with
  | .ClassDef _ _ _ b _ _ _ _ _ _ _ => b.getD j (.Pass ⟨0, 0, 0, 0⟩)
  | s => s
end W
set_option Elab.async false
set_option linter.all false
set_option maxRecDepth 100000
set_option maxHeartbeats 1000000
namespace TT
open PySem
section
variable {α : Type} (a : α → Nat)
/-- reading signs, so many terms lacking -/
def run : List α → Nat → Option Nat
  | [], l => some l
  | _ :: _, 0 => none
  | s :: r, l + 1 => run r (l + a s)
/-- how many signs so many terms take -/
def skip : List α → Nat → Nat
  | [], _ => 0
  | _ :: _, 0 => 0
  | s :: r, l + 1 => 1 + skip r (l + a s)
end
section
variable {α : Type} {a : α → Nat}
theorem run_append : ∀ (x y : List α) (l : Nat), run a (x ++ y) l = (run a x l).bind (run a y)
  | [], y, l => rfl
  | s :: r, y, 0 => rfl
  | s :: r, y, l + 1 => by
    show run a (r ++ y) (l + a s) = _
    rw [run_append r y]; rfl
/-- enough signs for l terms -/
def enough (a : α → Nat) : List α → Nat → Prop
  | _, 0 => True
  | [], _ + 1 => False
  | s :: r, l + 1 => enough a r (l + a s)
theorem enough.split : ∀ (x : List α) (l m : Nat), enough a x (l + m) → enough a x l ∧ enough a (x.drop (skip a x l)) m ∧ skip a x (l + m) = skip a x l + skip a (x.drop (skip a x l)) m
  | x, 0, m, h => by
    rw [Nat.zero_add] at h ⊢
    have e : skip a x 0 = 0 := by cases x <;> rfl
    rw [e]
    exact ⟨by cases x <;> trivial, h, by rw [List.drop_zero, Nat.zero_add]⟩
  | [], l + 1, m, h => by rw [Nat.add_right_comm] at h; cases h
  | s :: r, l + 1, m, h => by
    have e1 : l + 1 + m = (l + m) + 1 := by omega
    rw [e1] at h ⊢
    have h : enough a r (l + m + a s) := h
    have e2 : l + m + a s = l + a s + m := by omega
    rw [e2] at h
    obtain ⟨h1, h2, h3⟩ := enough.split r (l + a s) m h
    have e3 : skip a (s :: r) (l + 1) = skip a r (l + a s) + 1 := Nat.add_comm _ _
    rw [e3, List.drop_succ_cons]
    refine ⟨h1, h2, ?_⟩
    show 1 + skip a r (l + m + a s) = _
    rw [e2, h3]; omega
theorem enough.run : ∀ (x : List α) (l k : Nat), run a x l = some k → k = 0 → enough a x l
  | [], l, k, e, z => by cases e; subst z; trivial
  | s :: r, 0, k, e, z => by cases e
  | s :: r, l + 1, k, e, z => enough.run r (l + a s) k e z
theorem run_skip : ∀ (x : List α) (l m : Nat), enough a x l → run a (x.take (skip a x l)) (l + m) = some m
  | x, 0, m, h => by
    have e : skip a x 0 = 0 := by cases x <;> rfl
    rw [e, List.take_zero, Nat.zero_add]; rfl
  | [], l + 1, m, h => by cases h
  | s :: r, l + 1, m, h => by
    have e3 : skip a (s :: r) (l + 1) = skip a r (l + a s) + 1 := Nat.add_comm _ _
    rw [e3, List.take_succ_cons]
    have e1 : l + 1 + m = (l + m) + 1 := by omega
    rw [e1]
    show run a _ (l + m + a s) = _
    have e2 : l + m + a s = l + a s + m := by omega
    rw [e2]
    exact run_skip r (l + a s) m h
/-- what stands before, and how many terms lack -/
theorem run_drop {x : List α} {l k : Nat} (h : run a x l = some k) (i : Nat) : ∃ m, run a (x.take i) l = some m ∧ run a (x.drop i) m = some k := by
  have e : run a (x.take i ++ x.drop i) l = some k := by rw [List.take_append_drop]; exact h
  rw [run_append] at e
  cases q : run a (x.take i) l with
  | none => rw [q] at e; cases e
  | some m => rw [q] at e; exact ⟨m, rfl, e⟩
/-- a whole term's signs -/
def Whole (a : α → Nat) (x : List α) : Prop := run a x 1 = some 0
theorem Whole.at {x : List α} (h : Whole a x) {i : Nat} (hi : i < x.length) : ∃ m, run a (x.take i) 1 = some (m + 1) ∧ enough a (x.drop i) (m + 1) ∧ run a (x.drop i) (m + 1) = some 0 := by
  obtain ⟨m, h1, h2⟩ := run_drop h i
  cases m with
  | zero =>
    have : (x.drop i) ≠ [] := fun e => by
      have := List.drop_eq_nil_iff.mp e; omega
    cases q : x.drop i with
    | nil => exact absurd q this
    | cons s r => rw [q] at h2; cases h2
  | succ m => exact ⟨m, h1, enough.run _ _ _ h2 rfl, h2⟩
/-- where the term at i ends -/
def fin (a : α → Nat) (x : List α) (i : Nat) : Nat := i + skip a (x.drop i) 1
/-- a term put in the place of the one at i -/
theorem Whole.put {x y : List α} (h : Whole a x) (hy : Whole a y) {i : Nat} (hi : i < x.length) : Whole a (x.take i ++ y ++ x.drop (fin a x i)) := by
  obtain ⟨m, h1, h2, h3⟩ := h.at hi
  unfold Whole
  rw [run_append, run_append, h1]
  have ry : run a y (m + 1) = some m := by
    have : ∀ (y : List α) (l k m : Nat), run a y l = some k → run a y (l + m) = some (k + m) := by
      intro y
      induction y with
      | nil => intro l k m e; cases e; rfl
      | cons s r ih =>
        intro l k m e
        cases l with
        | zero => cases e
        | succ l =>
          have e1 : l + 1 + m = (l + m) + 1 := by omega
          rw [e1]
          show run a r (l + m + a s) = _
          have e2 : l + m + a s = l + a s + m := by omega
          rw [e2]
          exact ih _ _ _ e
    have q := this y 1 0 m hy
    rw [Nat.add_comm, Nat.zero_add] at q; exact q
  show ((some (m + 1)).bind (run a y)).bind (run a (x.drop (fin a x i))) = some 0
  rw [Option.bind_some, ry, Option.bind_some]
  have e : x.drop i = (x.drop i).take (skip a (x.drop i) 1) ++ (x.drop i).drop (skip a (x.drop i) 1) := (List.take_append_drop _ _).symm
  rw [e, run_append, List.drop_drop] at h3
  have h2' := h2
  rw [Nat.add_comm] at h2'
  rw [show m + 1 = 1 + m by omega, run_skip (x.drop i) 1 m (enough.split _ 1 m h2').1] at h3
  exact h3
/-- the spots, by a stack -/
def spotsGo (a : α → Nat) : List α → List (List Nat) → List (List Nat)
  | s :: r, p :: st => p :: spotsGo a r ((List.range (a s)).map (fun k => p ++ [k]) ++ st)
  | _, _ => []
def spots (a : α → Nat) (x : List α) : List (List Nat) := spotsGo a x [[]]
theorem spotsGo_length : ∀ (x : List α) (st : List (List Nat)) (k : Nat), run a x st.length = some k → (spotsGo a x st).length = x.length
  | [], st, k, h => by cases st <;> rfl
  | s :: r, [], k, h => by cases h
  | s :: r, p :: st, k, h => by
    show (spotsGo a r _).length + 1 = r.length + 1
    rw [spotsGo_length r _ k (by rw [List.length_append, List.length_map, List.length_range, Nat.add_comm]; exact h)]
theorem Whole.spots_len {x : List α} (h : Whole a x) : (spots a x).length = x.length := spotsGo_length x [[]] 0 h
end
inductive T (α : Type) where
  | nd (s : α) (ts : List (T α))
section
variable {α : Type} {a : α → Nat}
def T.hd : T α → α | .nd s _ => s
mutual
def T.flat : T α → List α
  | .nd s ts => s :: T.flats ts
def T.flats : List (T α) → List α
  | [] => []
  | t :: ts => T.flat t ++ T.flats ts
end
mutual
def T.Ok (a : α → Nat) : T α → Prop
  | .nd s ts => ts.length = a s ∧ T.Oks a ts
def T.Oks (a : α → Nat) : List (T α) → Prop
  | [] => True
  | t :: ts => T.Ok a t ∧ T.Oks a ts
end
theorem T.Oks.get {ts : List (T α)} (h : T.Oks a ts) {i : Nat} {t : T α} (e : ts[i]? = some t) : T.Ok a t := by
  induction ts generalizing i with
  | nil => simp at e
  | cons u us ih =>
    unfold T.Oks at h
    cases i with
    | zero => simp at e; subst e; exact h.1
    | succ i => exact ih h.2 (by simpa using e)
end
end TT
set_option Elab.async false
set_option linter.all false
set_option maxRecDepth 100000
set_option maxHeartbeats 1000000
namespace TT
open PySem
section
variable {α : Type} {a : α → Nat}
/-- where the k-th part of the term at i begins -/
def bgn (a : α → Nat) (x : List α) (i k : Nat) : Nat := i + 1 + skip a (x.drop (i + 1)) k
/-- where a spot's term begins -/
def pos (a : α → Nat) (x : List α) : Nat → List Nat → Nat
  | i, [] => i
  | i, k :: p => pos a x (bgn a x i k) p
/-- every step of a spot is there -/
def Good (a : α → Nat) (x : List α) : Nat → List Nat → Prop
  | _, [] => True
  | i, k :: p => (∃ s, x[i]? = some s ∧ k < a s) ∧ Good a x (bgn a x i k) p
end
end TT
set_option Elab.async false
set_option linter.all false
set_option maxRecDepth 100000
set_option maxHeartbeats 1000000
namespace TT
open PySem
section
variable {α : Type} {a : α → Nat} {L : α → Bool}
theorem Good.append {x : List α} : ∀ {p q : List Nat} {o : Nat}, Good a x o (p ++ q) → Good a x o p ∧ Good a x (pos a x o p) q
  | [], q, o, h => ⟨trivial, h⟩
  | k :: p, q, o, h => ⟨⟨h.1, (Good.append h.2).1⟩, (Good.append h.2).2⟩
end
section
variable {α : Type} [DecidableEq α] (a : α → Nat) (L : α → Bool)
def look {β : Type} : List (α × β) → α → Option β
  | [], _ => none
  | (s, q) :: r, z => if s = z then some q else look r z
variable {a L}
end
end TT
set_option Elab.async false
set_option linter.all false
set_option maxRecDepth 100000
set_option maxHeartbeats 1000000
namespace W
open PySem PySem.Spec PyProof.Rows L2 L3 TT He
/-- may be asked after its type -/
def inst : D → Bool
  | .raw _ => false | .scr _ _ => false | .dt _ _ => false | .obj _ _ _ => false | .box => false | .cel _ => false | .exn _ _ _ _ _ => false | _ => true
/-- a word's name -/
structure Nm (x : Str) : Prop where
  lo : 1 ≤ x.length
  hi : x.length ≤ 8
  sm : ∀ c ∈ x.cps.toList, 97 ≤ c ∧ c ≤ 122
def numS (k : Nat) : Str := Str.ofString (toString (k : Int))
/-- a letter -/
inductive Lt : Str → Prop where
  | one (c : Nat) (h1 : 65 ≤ c) (h2 : c ≤ 90) : Lt ⟨#[c]⟩
  | num (c : Nat) (h1 : 65 ≤ c) (h2 : c ≤ 90) (k : Nat) (hk : k < 100) : Lt (⟨#[c]⟩ ++ numS k)
abbrev Row := Str × Nat
structure RowsOk (rows : List Row) : Prop where
  lo : 1 ≤ rows.length
  hi : rows.length ≤ 12
  nm : ∀ r ∈ rows, Nm r.1
  pl : ∀ r ∈ rows, r.2 ≤ 4
  nd : (rows.map (·.1)).Nodup
def ar (rows : List Row) (s : Str) : Nat := (look rows s).getD 0
def isW (rows : List Row) (s : Str) : Bool := (look rows s).isSome
/-- a term's signs -/
structure Tm (rows : List Row) (x : List Str) (m : Nat) : Prop where
  wh : Whole (ar rows) x
  sg : ∀ s ∈ x, isW rows s = true ∨ Lt s
  hi : x.length ≤ m
theorem Tm.pos {rows : List Row} {x : List Str} {m : Nat} (h : Tm rows x m) : 1 ≤ x.length := by
  have := h.wh
  unfold Whole at this
  cases x with
  | nil => cases this
  | cons _ _ => simp
end W
set_option Elab.async false
set_option linter.all false
set_option maxRecDepth 100000
set_option maxHeartbeats 1000000
namespace W
open PySem PySem.Spec PyProof.Rows L2 L3 He TT
local instance xdead6 : XCt := XCt.dead
section
variable {K : PySem.W.Frag} {n : Mem} {Q : K3}
theorem atI_nat {α : Type} {xs : List α} {j : Nat} {c : α} (h : xs[j]? = some c) : atI xs (j : Int) = some c := by
  have hj := (List.getElem?_eq_some_iff.mp h).1
  unfold atI ixN
  rw [if_pos (by omega), if_pos (by omega)]
  exact h
/-- a list made turn by turn -/
def FmW (f : D → Option D) (items : List D) (n : Mem) : Nat → List D → Mem → Prop := fun i acc n' => n' = n ∧ acc = (items.take i).filterMap f
theorem FmW.lt {f : D → Option D} {items acc : List D} {i : Nat} {n' : Mem} {d : D} (h : FmW f items n i acc n') (e : items[i]? = some d) (hz : items.length ≤ 16384) : acc.length < sizeLine := by
  rw [h.2]
  have h1 := List.length_filterMap_le f (items.take i)
  rw [List.length_take] at h1
  have h2 := (List.getElem?_eq_some_iff.mp e).1
  have : (16384 : Nat) ≤ sizeLine := by decide
  omega
theorem FmW.some {f : D → Option D} {items acc : List D} {i : Nat} {n' : Mem} {d y : D} (h : FmW f items n i acc n') (e : items[i]? = Option.some d) (ey : f d = Option.some y) : FmW f items n (i + 1) (acc ++ [y]) n' := by
  refine ⟨h.1, ?_⟩
  rw [List.take_add_one, e, List.filterMap_append, ← h.2]
  show _ = acc ++ List.filterMap f [d]
  rw [List.filterMap_cons, ey]; rfl
theorem FmW.none {f : D → Option D} {items acc : List D} {i : Nat} {n' : Mem} {d : D} (h : FmW f items n i acc n') (e : items[i]? = Option.some d) (ey : f d = Option.none) : FmW f items n (i + 1) acc n' := by
  refine ⟨h.1, ?_⟩
  rw [List.take_add_one, e, List.filterMap_append, ← h.2]
  show _ = acc ++ List.filterMap f [d]
  rw [List.filterMap_cons, ey, List.filterMap_nil, List.append_nil]
theorem FmW.done {f : D → Option D} {items acc : List D} {n' : Mem} (h : FmW f items n items.length acc n') : n' = n ∧ acc = items.filterMap f := ⟨h.1, by rw [h.2, List.take_length]⟩
theorem RowsOk.fresh {rows : List Row} (ok : RowsOk rows) {i : Nat} {r : Row} (z : rows[i]? = Option.some r) : (.inr r.1 : Key) ∉ (rows.take i).map (fun r => (.inr r.1 : Key)) := fun hm => by
  obtain ⟨r', hr', er'⟩ := List.mem_map.mp hm
  obtain ⟨j, hj, ej⟩ := List.mem_iff_getElem.mp hr'
  have hj2 : j < i ∧ j < rows.length := by rw [List.length_take] at hj; omega
  have e1 : (rows.map (·.1))[j]? = Option.some r.1 := by
    rw [List.getElem_take] at ej
    rw [List.getElem?_map, List.getElem?_eq_getElem hj2.2, ej]
    exact congrArg Option.some (Sum.inr.inj er')
  have e2 : (rows.map (·.1))[i]? = Option.some r.1 := by rw [List.getElem?_map, z]; rfl
  have := (List.getElem?_inj (by rw [List.length_map]; exact hj2.2) ok.nd).mp (e1.trans e2.symm)
  omega
mutual
theorem eqv_refl : ∀ d : D, d.plain = true → PyData.eqv d.py d.py = true
  | .non, _ => rfl
  | .bl b, _ => by show (b == b) = true; exact beq_self_eq_true b
  | .int i, _ => by show (i == i) = true; exact beq_self_eq_true i
  | .str x, _ => by show (x == x) = true; exact beq_self_eq_true x
  | .lst ds, h => by
    unfold D.plain at h
    unfold D.py PyData.eqv
    exact eqv_reflAll ds h
  | .tup ds, h => by
    unfold D.plain at h
    unfold D.py PyData.eqv
    exact eqv_reflAll ds h
theorem eqv_reflAll : ∀ ds : List D, D.plainAll ds = true → PyData.eqvAll (D.pyAll ds) (D.pyAll ds) = true
  | [], _ => by unfold D.pyAll PyData.eqvAll; rfl
  | d :: ds, h => by
    unfold D.plainAll at h
    have h := (Bool.and_eq_true _ _).mp h
    unfold D.pyAll PyData.eqvAll
    rw [eqv_refl d h.1, eqv_reflAll ds h.2]; rfl
end
/-- plain, so deep at most -/
def cmpK (k : Nat) (d : D) : Prop := d.plain = true ∧ d.dep ≤ k
theorem cmpK.cmp {k : Nat} {d : D} (h : cmpK k d) (hk : k ≤ 64) : d.cmp := ⟨h.1, Nat.le_trans h.2 hk⟩
theorem cmpK.mono {j k : Nat} {d : D} (h : cmpK j d) (hk : j ≤ k) : cmpK k d := ⟨h.1, Nat.le_trans h.2 hk⟩
end
end W
set_option Elab.async false
set_option linter.all false
set_option maxRecDepth 100000
set_option maxHeartbeats 1000000
namespace TT
open PySem
section
variable {α : Type} {a : α → Nat}
theorem drop_at {x : List α} {i : Nat} {s : α} (h : x[i]? = some s) : x.drop i = s :: x.drop (i + 1) := by
  have hi := (List.getElem?_eq_some_iff.mp h).1
  rw [List.drop_eq_getElem_cons hi]
  congr 1
  exact (List.getElem?_eq_some_iff.mp h).2
theorem Whole.step {x : List α} (h : Whole a x) {i l : Nat} {s : α} (hs : x[i]? = some s) (hl : run a (x.take i) 1 = some l) : ∃ l', l = l' + 1 ∧ run a (x.take (i + 1)) 1 = some (l' + a s) := by
  obtain ⟨m, h1, _⟩ := h.at (List.getElem?_eq_some_iff.mp hs).1
  rw [h1] at hl
  refine ⟨m, (Option.some.inj hl).symm, ?_⟩
  rw [List.take_add_one, hs, run_append, h1]; rfl
end
end TT
namespace W
open PySem PySem.Spec PyProof.Rows L2 L3 He TT
local instance xdead7 : XCt := XCt.dead
end W
set_option Elab.async false
set_option linter.all false
set_option maxRecDepth 100000
set_option maxHeartbeats 1000000
namespace TT
open PySem
section
variable {α : Type} {a : α → Nat}
/-- the stack of spots: reading on -/
structure Stk (a : α → Nat) (x : List α) (i : Nat) (st : List (List Nat)) : Prop where
  rn : run a (x.take i) 1 = some st.length
  sp : spots a x = (spots a x).take i ++ spotsGo a (x.drop i) st
  le : i ≤ x.length
theorem Stk.step {x : List α} {i : Nat} {p : List Nat} {st : List (List Nat)} (h : Whole a x) (s : Stk a x i (p :: st)) :
    ∃ z, x[i]? = some z ∧ (spots a x)[i]? = some p ∧ Stk a x (i + 1) ((List.range (a z)).map (fun k => p ++ [k]) ++ st) := by
  have hi : i < x.length := by
    rcases Nat.lt_or_ge i x.length with z | z
    · exact z
    · have e : i = x.length := Nat.le_antisymm s.le z
      have r := s.rn
      rw [e, List.take_length] at r
      have := r.symm.trans h
      cases this
  obtain ⟨z, hz⟩ : ∃ z, x[i]? = some z := ⟨_, List.getElem?_eq_getElem hi⟩
  have hl := h.spots_len
  have e := s.sp
  rw [drop_at hz] at e
  have e : spots a x = (spots a x).take i ++ (p :: spotsGo a (x.drop (i + 1)) ((List.range (a z)).map (fun k => p ++ [k]) ++ st)) := e
  have lt : ((spots a x).take i).length = i := by rw [List.length_take]; omega
  have g : (spots a x)[i]? = some p := by
    rw [e, List.getElem?_append_right (by omega), lt, Nat.sub_self]; rfl
  refine ⟨z, hz, g, ?_, ?_, hi⟩
  · obtain ⟨l', e1, e2⟩ := h.step hz s.rn
    rw [e2]
    rw [List.length_append, List.length_map, List.length_range]
    rw [List.length_cons] at e1
    congr 1; omega
  · rw [List.take_add_one, g, List.append_assoc]; exact e
end
end TT
set_option Elab.async false
set_option linter.all false
set_option maxRecDepth 100000
set_option maxHeartbeats 1000000
namespace W
open PySem PySem.Spec PyProof.Rows L2 L3 He TT
local instance xdead9 : XCt := XCt.dead
theorem lk_at {κ : Type} [DecidableEq κ] : ∀ {ks : List κ} {ds : List D} {i : Nat} {k : κ} {d : D}, ks.Nodup → ks[i]? = some k → ds[i]? = some d → lk ks ds k = some d
  | [], ds, i, k, d, h, e, e2 => by simp at e
  | k :: ks, [], i, k', d, h, e, e2 => by simp at e2
  | k :: ks, d :: ds, 0, k', d', h, e, e2 => by
    simp at e e2
    subst e e2
    show (if k = k then some d else _) = _
    rw [if_pos rfl]
  | k :: ks, d :: ds, i + 1, k', d', h, e, e2 => by
    simp at e e2
    have ne : k ≠ k' := fun z => (List.nodup_cons.mp h).1 (z ▸ List.mem_of_getElem? e)
    show (if k = k' then some d else lk ks ds k') = _
    rw [if_neg ne]
    exact lk_at (List.nodup_cons.mp h).2 e e2
end W
set_option Elab.async false
set_option linter.all false
set_option maxRecDepth 100000
set_option maxHeartbeats 1000000
namespace W
open PySem PySem.Spec PyProof.Rows L2 L3 He TT
local instance xdead0A : XCt := XCt.dead
/-- the classes of the stages -/
def cs14 : List Str := ["NoOrder", "NoWeights", "NoNames", "NotAdmitted", "NoEquations", "NotGround", "NotOrdered", "NotSame", "NoStep", "Unfinished", "NotLinear", "NoMakers", "NoCompleting", "NoModel"]
/-- and the base -/
def cs15 : List Str := cs14 ++ (["TermError"] : List Str)
/-- the others -/
def cs36 : List Str := (["NoName", "NoWords", "NoSigns", "NoSign", "NoWord", "Beyond", "Unended", "NoTerm", "NoTerms"] : List Str) ++ (["NoLetter", "NoPairs", "NoPutting", "NoWay", "NoNumber", "NoTruth", "NoNote", "NoList", "NoAsk"] : List Str) ++ (["NoRule", "NoRules", "NoRow", "NoShelf", "NoDeed", "NoText", "NoLine", "Unlike", "Twice"] : List Str) ++ (["TooMany", "TooGreat", "NotThere", "NoSpot", "NoMore", "Changed", "Endless", "Absent", "Ended"] : List Str)
/-- looked at by the kernel -/
def kx1 (K : PySem.W.Frag) : Bool := cs15.all fun c => excIB K (ga K c) && (cs14 ++ cs36).all fun d => decide (PySem.W.kitOne K (.ref (ga K c)) (.ref (ga K d)) = some (decide (c = d)))
def kx2 (K : PySem.W.Frag) : Bool := cs14.all fun c => decide (PySem.W.kitOne K (.ref (ga K c)) (.ref (ga K "TermError")) = some true) && decide (PySem.W.kitOne K (.ref (ga K c)) (.type "ValueError") = some true)
def kx3 (K : PySem.W.Frag) : Bool := decide (PySem.W.findIn K (.ref (ga K "NoTerm")) "__repr__" = some (some (.builtin "BaseException.__repr__"))) && (decide (PySem.W.subIn K (.ref (ga K "NoTerm")) (.type "BaseException") = some true) && (decide (headX K (ga K "NoTerm") = some "NoTerm") &&
  (excIB K (ga K "NoTerm") && (decide (PySem.W.kitOne K (.ref (ga K "NoTerm")) (.type "list") = some false) && decide (PySem.W.kitOne K (.ref (ga K "NoTerm")) (.type "dict") = some false)))))
structure Kx (K : PySem.W.Frag) : Prop where
  h1 : kx1 K = true
  h2 : kx2 K = true
  h3 : kx3 K = true
section
variable {K : PySem.W.Frag}
theorem Kx.ib (k : Kx K) {c : Str} (hc : c ∈ cs15) : excIB K (ga K c) = true := by
  have h := List.all_eq_true.mp k.h1 c hc
  exact (Bool.and_eq_true_iff.mp h).1
theorem Kx.one (k : Kx K) {c d : Str} (hc : c ∈ cs15) (hd : d ∈ cs14 ++ cs36) : PySem.W.kitOne K (.ref (ga K c)) (.ref (ga K d)) = some (decide (c = d)) := by
  have h := List.all_eq_true.mp k.h1 c hc
  exact of_decide_eq_true (List.all_eq_true.mp (Bool.and_eq_true_iff.mp h).2 d hd)
theorem Kx.te (k : Kx K) {c : Str} (hc : c ∈ cs14) : PySem.W.kitOne K (.ref (ga K c)) (.ref (ga K "TermError")) = some true ∧ PySem.W.kitOne K (.ref (ga K c)) (.type "ValueError") = some true := by
  have h := Bool.and_eq_true_iff.mp (List.all_eq_true.mp k.h2 c hc)
  exact ⟨of_decide_eq_true h.1, of_decide_eq_true h.2⟩
/-- such an error, as a thing or as the handled one -/
inductive Er (K : PySem.W.Frag) (z : Zx) (c : Str) : D → Prop
  | x (m : Option Str) (ns : List Str) (ds : List D) : Er K z c (.exd (ga K c) m ns ds)
  | n (a dx : Addr) (ns : List Str) (ds : List D) (h : z = some (a, ga K c, some dx)) : Er K z c (.exn a (ga K c) dx ns ds)
theorem Er.der {z : Zx} {c : Str} {e : D} (h : Er K z c e) (m : Mem) : m.der e = e := by cases h <;> rfl
theorem isZ {z : Zx} {c : Str} {e : D} {u : Value} {cv : V} {p : D → Option Bool} {b : Bool} (h : Er K z c e) (hi : excIB K (ga K c) = true) (hk : PySem.W.kitOne K (.ref (ga K c)) u = some b) : cbM (cDer (rIsi3 (pZ K z u p) cv)) [e, .raw cv] = pure (.bl b) :=
  cb_isi (fun m => h.der m) (by
    cases h with
    | x m ns ds => show (if excIB K (ga K c) = true then _ else _) = _; rw [if_pos hi, hk]
    | n a dx ns ds e => show (if z = some (a, ga K c, some dx) ∧ excIB K (ga K c) = true then _ else _) = _; rw [if_pos ⟨e, hi⟩, hk])
theorem bls_cmp (l : List Bool) : (D.lst (l.map .bl)).cmp := by
  have h : ∀ l : List Bool, D.plainAll (l.map .bl) = true ∧ PyData.depthAll (D.pyAll (l.map .bl)) = 0 := fun l => by
    induction l with
    | nil => exact ⟨by simp only [List.map_nil, D.plainAll], by simp only [List.map_nil, D.pyAll, PyData.depthAll]⟩
    | cons a l ih => exact ⟨by simp only [List.map_cons, D.plainAll, D.plain, ih.1, Bool.and_self], by simp only [List.map_cons, D.pyAll, D.py, PyData.depthAll, PyData.depth, ih.2, Nat.max_self]⟩
  refine ⟨by unfold D.plain; exact (h l).1, ?_⟩
  unfold D.dep
  simp only [D.py, PyData.depth, (h l).2]
  omega
theorem op_addLs {xs ys : List D} (h : xs.length + ys.length ≤ 1000) : opM (rDer rAdd3) (.lst xs) (.lst ys) = pure (.lst (xs ++ ys)) := op_addL (Nat.le_trans h (by decide))
theorem law_sorts {z : Zx} {c : Str} {e : D} (k : Kx K) (hc : c ∈ cs15) (h : Er K z c e) : m__law_sorts z K e = pure (.lst (cs14.map fun d => .bl (decide (c = d)))) := by
  have hi := k.ib hc
  have one : ∀ d, d ∈ cs14 ++ cs36 → ∀ p cv, cbM (cDer (rIsi3 (pZ K z (.ref (ga K d)) p) cv)) [e, .raw cv] = pure (.bl (decide (c = d))) := fun d hd p cv => isZ h hi (k.one hc hd)
  unfold m__law_sorts
  simp only [mp_pb, mp_bb, mp_rb, consA_pp, ap2_pp, cl0_n, cl1_n, cl2_n, cl3_n, cl4_n, cl5_n, cl6_n, cl7_n, asB_bl, asI_int, andV, orV, notV, cAnd, cOr, cNot, ifE, chM, eNM_p, toD_lst, toD_dk, Jn, frzM, lcB, dcB, itSeq_lst, itSeqD_lst, itSeqD_tup, itEnum_lst, itEnumS_lst, itEnumS_tup, itTup_tup, itStr_str, itZip_lst, itZipT_tup, itEz_lst, itRev_lst, forK_true, unp1_ok, unp2_ok, unp3_ok, unp4_ok, unp2L_ok, op_addI, L3.op_sub, op_cmp, op_eqI, op_eqS, op_inS, cb_lenL, cb_lenT, cb_lenD, cb_int2, cb_abs, cb_tupL, cb_tupT, cb_intB, cb_boolI, slM_L, slM_T, isDict_dk, asL_lst, isL_lst, revM_lst, revTM_tup, negM_int, augM_pp, isStr_str, isLst_lst, optM_some, tup0, tup1, tup2, tup3, tup4, lst0, lst1, lst2, lst3, lst4, lst5, insE_ok, isInt_int, isInt_bl, isInt_str, isInt_tup, isInt_lst, isInt_non, isInt_dk, isBl_int, isBl_bl, isBl_str, isBl_tup, isBl_lst, isBl_non, isStr_int, isStr_bl, isStr_s, isStr_tup, isStr_lst, isStr_non, isTup_int, isTup_bl, isTup_str, isTup_tup, isTup_lst, isTup_non, dLst_int, dLst_bl, dLst_str, dLst_tup, dLst_lst, dLst_non, ite_mt, ite_mf, if_true, if_false, Bool.false_eq_true, Bool.true_eq_false, Bool.not_true, Bool.not_false, Bool.or_false, Bool.or_true, Bool.false_or, Bool.true_or, Bool.and_true, Bool.and_false, Bool.true_and, Bool.false_and, ↓reduceIte, decide_true, decide_false, isB_non, isBB_non, isO_non, isB_bl, isBB_bl, isO_bl, isB_int, isBB_int, isO_int, isB_str, isBB_str, isO_str, isB_lst, isBB_lst, isO_lst, isB_tup, isBB_tup, isO_tup, isB_dk, isBB_dk, isO_dk, one "NoOrder" (by decide +kernel), one "NoWeights" (by decide +kernel), one "NoNames" (by decide +kernel), one "NotAdmitted" (by decide +kernel), one "NoEquations" (by decide +kernel), one "NotGround" (by decide +kernel), one "NotOrdered" (by decide +kernel), one "NotSame" (by decide +kernel), one "NoStep" (by decide +kernel), one "Unfinished" (by decide +kernel), one "NotLinear" (by decide +kernel), one "NoMakers" (by decide +kernel), one "NoCompleting" (by decide +kernel), one "NoModel" (by decide +kernel)]
  repeat (rw [op_addLs (by simp only [List.length_append, List.length_cons, List.length_nil]; decide)]; simp only [mp_pb, mp_bb, mp_rb, consA_pp, ap2_pp, cl0_n, cl1_n, cl2_n, cl3_n, cl4_n, cl5_n, cl6_n, cl7_n, asB_bl, asI_int, andV, orV, notV, cAnd, cOr, cNot, ifE, chM, eNM_p, toD_lst, toD_dk, Jn, frzM, lcB, dcB, itSeq_lst, itSeqD_lst, itSeqD_tup, itEnum_lst, itEnumS_lst, itEnumS_tup, itTup_tup, itStr_str, itZip_lst, itZipT_tup, itEz_lst, itRev_lst, forK_true, unp1_ok, unp2_ok, unp3_ok, unp4_ok, unp2L_ok, op_addI, L3.op_sub, op_cmp, op_eqI, op_eqS, op_inS, cb_lenL, cb_lenT, cb_lenD, cb_int2, cb_abs, cb_tupL, cb_tupT, cb_intB, cb_boolI, slM_L, slM_T, isDict_dk, asL_lst, isL_lst, revM_lst, revTM_tup, negM_int, augM_pp, isStr_str, isLst_lst, optM_some, tup0, tup1, tup2, tup3, tup4, lst0, lst1, lst2, lst3, lst4, lst5, insE_ok, isInt_int, isInt_bl, isInt_str, isInt_tup, isInt_lst, isInt_non, isInt_dk, isBl_int, isBl_bl, isBl_str, isBl_tup, isBl_lst, isBl_non, isStr_int, isStr_bl, isStr_s, isStr_tup, isStr_lst, isStr_non, isTup_int, isTup_bl, isTup_str, isTup_tup, isTup_lst, isTup_non, dLst_int, dLst_bl, dLst_str, dLst_tup, dLst_lst, dLst_non, ite_mt, ite_mf, if_true, if_false, Bool.false_eq_true, Bool.true_eq_false, Bool.not_true, Bool.not_false, Bool.or_false, Bool.or_true, Bool.false_or, Bool.true_or, Bool.and_true, Bool.and_false, Bool.true_and, Bool.false_and, ↓reduceIte, decide_true, decide_false, isB_non, isBB_non, isO_non, isB_bl, isBB_bl, isO_bl, isB_int, isBB_int, isO_int, isB_str, isBB_str, isO_str, isB_lst, isBB_lst, isO_lst, isB_tup, isBB_tup, isO_tup, isB_dk, isBB_dk, isO_dk])
  rfl
end
end W
set_option Elab.async false
set_option linter.all false
set_option maxRecDepth 100000
set_option maxHeartbeats 0
namespace Hd
open PySem PySem.Spec PyProof.Rows L2 L3 W
def d__law_cell : He.DefD := ⟨("_law_cell", none), "_law_cell", "_law_cell", defArgs (top 53), defBody (top 53), defScope (top 53), [], []⟩
def d__law_box : He.DefD := ⟨("_law_box", none), "_law_box", "_law_box", defArgs (top 54), defBody (top 54), defScope (top 54), [], []⟩
def d__law_take : He.DefD := ⟨("_law_take", none), "_law_take", "_law_take", defArgs (top 55), defBody (top 55), defScope (top 55), [], []⟩
def d__law_very : He.DefD := ⟨("_law_very", none), "_law_very", "_law_very", defArgs (top 56), defBody (top 56), defScope (top 56), [], []⟩
def d__law_by_place : He.DefD := ⟨("_law_by_place", none), "_law_by_place", "_law_by_place", defArgs (top 57), defBody (top 57), defScope (top 57), [], []⟩
def d__law_by_name : He.DefD := ⟨("_law_by_name", none), "_law_by_name", "_law_by_name", defArgs (top 58), defBody (top 58), defScope (top 58), [], []⟩
def d__law_sorts : He.DefD := ⟨("_law_sorts", none), "_law_sorts", "_law_sorts", defArgs (top 59), defBody (top 59), defScope (top 59), [], []⟩
def d__law_others : He.DefD := ⟨("_law_others", none), "_law_others", "_law_others", defArgs (top 60), defBody (top 60), defScope (top 60), [], []⟩
def d__law_field : He.DefD := ⟨("_law_field", none), "_law_field", "_law_field", defArgs (top 61), defBody (top 61), defScope (top 61), [], []⟩
def d__law_thing : He.DefD := ⟨("_law_thing", none), "_law_thing", "_law_thing", defArgs (top 62), defBody (top 62), defScope (top 62), [], []⟩
def d__law_caught : He.DefD := ⟨("_law_caught", none), "_law_caught", "_law_caught", defArgs (top 63), defBody (top 63), defScope (top 63), [], []⟩
def d__law_right : He.DefD := ⟨("_law_right", none), "_law_right", "_law_right", defArgs (top 64), defBody (top 64), defScope (top 64), [], []⟩
def d_law : He.DefD := ⟨("law", none), "law", "law", defArgs (top 65), defBody (top 65), defScope (top 65), [], []⟩
def d_NoCompleting___init__ : He.DefD := ⟨("NoCompleting", some "__init__"), "__init__", "NoCompleting.__init__", defArgs (mth 45 0), defBody (mth 45 0), defScope (mth 45 0), [], []⟩
def d_NoEquations___init__ : He.DefD := ⟨("NoEquations", some "__init__"), "__init__", "NoEquations.__init__", defArgs (mth 37 0), defBody (mth 37 0), defScope (mth 37 0), [], []⟩
def d_NoMakers___init__ : He.DefD := ⟨("NoMakers", some "__init__"), "__init__", "NoMakers.__init__", defArgs (mth 44 0), defBody (mth 44 0), defScope (mth 44 0), [], []⟩
def d_NoModel___init__ : He.DefD := ⟨("NoModel", some "__init__"), "__init__", "NoModel.__init__", defArgs (mth 46 0), defBody (mth 46 0), defScope (mth 46 0), [], []⟩
def d_NoNames___init__ : He.DefD := ⟨("NoNames", some "__init__"), "__init__", "NoNames.__init__", defArgs (mth 35 0), defBody (mth 35 0), defScope (mth 35 0), [], []⟩
def d_NoOrder___init__ : He.DefD := ⟨("NoOrder", some "__init__"), "__init__", "NoOrder.__init__", defArgs (mth 33 0), defBody (mth 33 0), defScope (mth 33 0), [], []⟩
def d_NoStep___init__ : He.DefD := ⟨("NoStep", some "__init__"), "__init__", "NoStep.__init__", defArgs (mth 41 0), defBody (mth 41 0), defScope (mth 41 0), [], []⟩
def d_NoTerm___init__ : He.DefD := ⟨("NoTerm", some "__init__"), "__init__", "NoTerm.__init__", defArgs (mth 11 0), defBody (mth 11 0), defScope (mth 11 0), [], []⟩
def d_NoWeights___init__ : He.DefD := ⟨("NoWeights", some "__init__"), "__init__", "NoWeights.__init__", defArgs (mth 34 0), defBody (mth 34 0), defScope (mth 34 0), [], []⟩
def d_NotAdmitted___init__ : He.DefD := ⟨("NotAdmitted", some "__init__"), "__init__", "NotAdmitted.__init__", defArgs (mth 36 0), defBody (mth 36 0), defScope (mth 36 0), [], []⟩
def d_NotGround___init__ : He.DefD := ⟨("NotGround", some "__init__"), "__init__", "NotGround.__init__", defArgs (mth 38 0), defBody (mth 38 0), defScope (mth 38 0), [], []⟩
def d_NotLinear___init__ : He.DefD := ⟨("NotLinear", some "__init__"), "__init__", "NotLinear.__init__", defArgs (mth 43 0), defBody (mth 43 0), defScope (mth 43 0), [], []⟩
def d_NotOrdered___init__ : He.DefD := ⟨("NotOrdered", some "__init__"), "__init__", "NotOrdered.__init__", defArgs (mth 39 0), defBody (mth 39 0), defScope (mth 39 0), [], []⟩
def d_NotSame___init__ : He.DefD := ⟨("NotSame", some "__init__"), "__init__", "NotSame.__init__", defArgs (mth 40 0), defBody (mth 40 0), defScope (mth 40 0), [], []⟩
def d_Unfinished___init__ : He.DefD := ⟨("Unfinished", some "__init__"), "__init__", "Unfinished.__init__", defArgs (mth 42 0), defBody (mth 42 0), defScope (mth 42 0), [], []⟩
def fnA : List He.DefD := [d__law_cell, d__law_box, d__law_take, d__law_very, d__law_by_place, d__law_by_name, d__law_sorts, d__law_others, d__law_field, d__law_thing, d__law_caught, d__law_right, d_law, d_NoCompleting___init__]
def fnB : List He.DefD := [d_NoEquations___init__, d_NoMakers___init__, d_NoModel___init__, d_NoNames___init__, d_NoOrder___init__, d_NoStep___init__, d_NoTerm___init__, d_NoWeights___init__, d_NotAdmitted___init__, d_NotGround___init__, d_NotLinear___init__, d_NotOrdered___init__, d_NotSame___init__, d_Unfinished___init__]
def fn : List He.DefD := fnA ++ fnB
def faA : List He.Fa := [.free "ValueError", .free "abs", .free "dict", .free "enumerate", .free "isinstance", .free "len", .free "list", .free "max", .free "min", .free "range", .free "repr", .glo "Absent", .glo "Beyond", .glo "Changed", .glo "Ended", .glo "Endless", .glo "NoAsk", .glo "NoCompleting", .glo "NoDeed", .glo "NoEquations", .glo "NoLetter", .glo "NoLine", .glo "NoList", .glo "NoMakers", .glo "NoModel", .glo "NoMore", .glo "NoName", .glo "NoNames", .glo "NoNote", .glo "NoNumber", .glo "NoOrder", .glo "NoPairs", .glo "NoPutting", .glo "NoRow", .glo "NoRule", .glo "NoRules", .glo "NoShelf", .glo "NoSign"]
def faB : List He.Fa := [.glo "NoSigns", .glo "NoSpot", .glo "NoStep", .glo "NoTerm", .glo "NoTerms", .glo "NoText", .glo "NoTruth", .glo "NoWay", .glo "NoWeights", .glo "NoWord", .glo "NoWords", .glo "NotAdmitted", .glo "NotGround", .glo "NotLinear", .glo "NotOrdered", .glo "NotSame", .glo "NotThere", .glo "TermError", .glo "TooGreat", .glo "TooMany", .glo "Twice", .glo "Unended", .glo "Unfinished", .glo "Unlike", .glo "_law_box", .glo "_law_by_name", .glo "_law_by_place", .glo "_law_caught", .glo "_law_cell", .glo "_law_field", .glo "_law_others", .glo "_law_right", .glo "_law_sorts", .glo "_law_take", .glo "_law_thing", .glo "_law_very", .glo "law"]
def fa : List He.Fa := faA ++ faB
def exsA (K : PySem.W.Frag) : List Bool := [He.insAllB K [], He.ownBB K "dict" [], He.ownBB K "list" [], He.oexBB K (He.ga K "TermError"), He.excAB K (He.ga K "NoCompleting") "found", He.excAB K (He.ga K "NoEquations") "found", He.excAB K (He.ga K "NoMakers") "found", He.excAB K (He.ga K "NoModel") "found", He.excAB K (He.ga K "NoNames") "found", He.excAB K (He.ga K "NoOrder") "found", He.excAB K (He.ga K "NoStep") "at", He.excAB K (He.ga K "NoTerm") "found", He.excAB K (He.ga K "NoWeights") "found"]
def exsB (K : PySem.W.Frag) : List Bool := [He.excAB K (He.ga K "NotAdmitted") "found", He.excAB K (He.ga K "NotGround") "found", He.excAB K (He.ga K "NotLinear") "found", He.excAB K (He.ga K "NotOrdered") "at", He.excAB K (He.ga K "NotSame") "at", He.excAB K (He.ga K "Unfinished") "found", He.xfAB K (W.xc_at K) "at", He.xfAB K (W.xc_found K) "found", L3.exmB K (W.xl_TermError K) [.ref (He.ga K "TermError")], He.exzB K "TermError", W.kx1 K, W.kx2 K, W.kx3 K]
def exs (K : PySem.W.Frag) : List Bool := exsA K ++ exsB K
def ex (K : PySem.W.Frag) : Bool := (exs K).all id
abbrev hk : PySem.W.Hook := He.hookX 4 fa fn ex
def ob (s : PySem.W.SharedT) : He.AlX := He.obsXG 4 fa fn ex (HandSHeadRun.getT s)
theorem ob_eq (s : PySem.W.SharedT) : ob s = hk.obs s.abs := He.obsXG_eq (HandSHeadRun.getT_eq s)
open HandSHeadRun PySem.W in
theorem runF1 (w : World) (os : OsState) : (endF (stepQ (denQ tabQ) R.prog w) 20000 R.prog w os).map (fun s => He.obsD faA fnA (He.frG (getT s) (He.asD (getT s) 4 ++ [cStatics]))) = some (He.valD fnA) := by
  kernel_rfl
open HandSHeadRun PySem.W in
theorem runF2 (w : World) (os : OsState) : (endF (stepQ (denQ tabQ) R.prog w) 20000 R.prog w os).map (fun s => He.obsD faB fnB (He.frG (getT s) (He.asD (getT s) 4 ++ [cStatics]))) = some (He.valD fnB) := by
  kernel_rfl
theorem obs_join {fa1 fa2 : List He.Fa} {fn1 fn2 : List He.DefD} {K : PySem.W.Frag} (h1 : He.obsD fa1 fn1 K = He.valD fn1) (h2 : He.obsD fa2 fn2 K = He.valD fn2) : He.obsD (fa1 ++ fa2) (fn1 ++ fn2) K = He.valD (fn1 ++ fn2) := by
  unfold He.obsD He.valD at *
  have a1 := congrArg Prod.fst h1
  have a2 := congrArg Prod.fst h2
  have b1 := congrArg Prod.snd h1
  have b2 := congrArg Prod.snd h2
  dsimp only at a1 a2 b1 b2
  rw [Bool.and_eq_true] at a1 a2
  rw [List.all_append, List.all_append, List.map_append, List.map_append, b1, b2, a1.1, a1.2, a2.1, a2.2]; rfl
theorem map_join {α β γ δ : Type} {o : Option α} {f : α → β} {g : α → γ} {h : α → δ} {b : β} {c : γ} {d : δ} (e1 : o.map f = some b) (e2 : o.map g = some c) (k : ∀ s, f s = b → g s = c → h s = d) : o.map h = some d := by
  cases o with
  | none => cases e1
  | some s => exact congrArg some (k s (Option.some.inj e1) (Option.some.inj e2))
open HandSHeadRun PySem.W in
theorem runF (w : World) (os : OsState) : (endF (stepQ (denQ tabQ) R.prog w) 20000 R.prog w os).map (fun s => (ob s).1) = some (He.valD fn) := map_join (f := fun s => He.obsD faA fnA (He.frG (getT s) (He.asD (getT s) 4 ++ [cStatics]))) (g := fun s => He.obsD faB fnB (He.frG (getT s) (He.asD (getT s) 4 ++ [cStatics]))) (runF1 w os) (runF2 w os) fun s h1 h2 => obs_join h1 h2
theorem all_join {a b : List Bool} (h1 : a.all id = true) (h2 : b.all id = true) : (a ++ b).all id = true := by rw [List.all_append, h1, h2]; rfl
open HandSHeadRun PySem.W in
theorem runE1 (w : World) (os : OsState) : (endF (stepQ (denQ tabQ) R.prog w) 20000 R.prog w os).map (fun s => (exsA (He.frG (getT s) (He.asD (getT s) 4 ++ [cStatics]))).all id) = some true := by
  kernel_rfl
open HandSHeadRun PySem.W in
theorem runE2 (w : World) (os : OsState) : (endF (stepQ (denQ tabQ) R.prog w) 20000 R.prog w os).map (fun s => (exsB (He.frG (getT s) (He.asD (getT s) 4 ++ [cStatics]))).all id) = some true := by
  kernel_rfl
open HandSHeadRun PySem.W in
theorem runE (w : World) (os : OsState) : (endF (stepQ (denQ tabQ) R.prog w) 20000 R.prog w os).map (fun s => (ob s).2) = some true := map_join (runE1 w os) (runE2 w os) fun s h1 h2 => all_join h1 h2
end Hd
set_option Elab.async false
set_option linter.all false
set_option maxRecDepth 100000
set_option maxHeartbeats 1000000
namespace W
open PySem PySem.Spec PyProof.Rows L2 L3 He
/-- what the written part holds -/
structure Fx (K : PySem.W.Frag) (mg : Str → Option Value) : Prop where
  F__law_cell : ∃ fd, FunD K "_law_cell" "_law_cell" (defArgs (top 53)) (defBody (top 53)) (defScope (top 53)) [] [] (ga K "_law_cell") fd
  F__law_box : ∃ fd, FunD K "_law_box" "_law_box" (defArgs (top 54)) (defBody (top 54)) (defScope (top 54)) [] [] (ga K "_law_box") fd
  F__law_take : ∃ fd, FunD K "_law_take" "_law_take" (defArgs (top 55)) (defBody (top 55)) (defScope (top 55)) [] [] (ga K "_law_take") fd
  F__law_very : ∃ fd, FunD K "_law_very" "_law_very" (defArgs (top 56)) (defBody (top 56)) (defScope (top 56)) [] [] (ga K "_law_very") fd
  F__law_by_place : ∃ fd, FunD K "_law_by_place" "_law_by_place" (defArgs (top 57)) (defBody (top 57)) (defScope (top 57)) [] [] (ga K "_law_by_place") fd
  F__law_by_name : ∃ fd, FunD K "_law_by_name" "_law_by_name" (defArgs (top 58)) (defBody (top 58)) (defScope (top 58)) [] [] (ga K "_law_by_name") fd
  F__law_sorts : ∃ fd, FunD K "_law_sorts" "_law_sorts" (defArgs (top 59)) (defBody (top 59)) (defScope (top 59)) [] [] (ga K "_law_sorts") fd
  F__law_others : ∃ fd, FunD K "_law_others" "_law_others" (defArgs (top 60)) (defBody (top 60)) (defScope (top 60)) [] [] (ga K "_law_others") fd
  F__law_field : ∃ fd, FunD K "_law_field" "_law_field" (defArgs (top 61)) (defBody (top 61)) (defScope (top 61)) [] [] (ga K "_law_field") fd
  F__law_thing : ∃ fd, FunD K "_law_thing" "_law_thing" (defArgs (top 62)) (defBody (top 62)) (defScope (top 62)) [] [] (ga K "_law_thing") fd
  F__law_caught : ∃ fd, FunD K "_law_caught" "_law_caught" (defArgs (top 63)) (defBody (top 63)) (defScope (top 63)) [] [] (ga K "_law_caught") fd
  F__law_right : ∃ fd, FunD K "_law_right" "_law_right" (defArgs (top 64)) (defBody (top 64)) (defScope (top 64)) [] [] (ga K "_law_right") fd
  F_law : ∃ fd, FunD K "law" "law" (defArgs (top 65)) (defBody (top 65)) (defScope (top 65)) [] [] (ga K "law") fd
  b_ValueError : mg "ValueError" = none
  b_abs : mg "abs" = none
  b_dict : mg "dict" = none
  b_enumerate : mg "enumerate" = none
  b_isinstance : mg "isinstance" = none
  b_len : mg "len" = none
  b_list : mg "list" = none
  b_max : mg "max" = none
  b_min : mg "min" = none
  b_range : mg "range" = none
  b_repr : mg "repr" = none
  g_Absent : mg "Absent" = some (.ref (ga K "Absent"))
  g_Beyond : mg "Beyond" = some (.ref (ga K "Beyond"))
  g_Changed : mg "Changed" = some (.ref (ga K "Changed"))
  g_Ended : mg "Ended" = some (.ref (ga K "Ended"))
  g_Endless : mg "Endless" = some (.ref (ga K "Endless"))
  g_NoAsk : mg "NoAsk" = some (.ref (ga K "NoAsk"))
  g_NoCompleting : mg "NoCompleting" = some (.ref (ga K "NoCompleting"))
  g_NoDeed : mg "NoDeed" = some (.ref (ga K "NoDeed"))
  g_NoEquations : mg "NoEquations" = some (.ref (ga K "NoEquations"))
  g_NoLetter : mg "NoLetter" = some (.ref (ga K "NoLetter"))
  g_NoLine : mg "NoLine" = some (.ref (ga K "NoLine"))
  g_NoList : mg "NoList" = some (.ref (ga K "NoList"))
  g_NoMakers : mg "NoMakers" = some (.ref (ga K "NoMakers"))
  g_NoModel : mg "NoModel" = some (.ref (ga K "NoModel"))
  g_NoMore : mg "NoMore" = some (.ref (ga K "NoMore"))
  g_NoName : mg "NoName" = some (.ref (ga K "NoName"))
  g_NoNames : mg "NoNames" = some (.ref (ga K "NoNames"))
  g_NoNote : mg "NoNote" = some (.ref (ga K "NoNote"))
  g_NoNumber : mg "NoNumber" = some (.ref (ga K "NoNumber"))
  g_NoOrder : mg "NoOrder" = some (.ref (ga K "NoOrder"))
  g_NoPairs : mg "NoPairs" = some (.ref (ga K "NoPairs"))
  g_NoPutting : mg "NoPutting" = some (.ref (ga K "NoPutting"))
  g_NoRow : mg "NoRow" = some (.ref (ga K "NoRow"))
  g_NoRule : mg "NoRule" = some (.ref (ga K "NoRule"))
  g_NoRules : mg "NoRules" = some (.ref (ga K "NoRules"))
  g_NoShelf : mg "NoShelf" = some (.ref (ga K "NoShelf"))
  g_NoSign : mg "NoSign" = some (.ref (ga K "NoSign"))
  g_NoSigns : mg "NoSigns" = some (.ref (ga K "NoSigns"))
  g_NoSpot : mg "NoSpot" = some (.ref (ga K "NoSpot"))
  g_NoStep : mg "NoStep" = some (.ref (ga K "NoStep"))
  g_NoTerm : mg "NoTerm" = some (.ref (ga K "NoTerm"))
  g_NoTerms : mg "NoTerms" = some (.ref (ga K "NoTerms"))
  g_NoText : mg "NoText" = some (.ref (ga K "NoText"))
  g_NoTruth : mg "NoTruth" = some (.ref (ga K "NoTruth"))
  g_NoWay : mg "NoWay" = some (.ref (ga K "NoWay"))
  g_NoWeights : mg "NoWeights" = some (.ref (ga K "NoWeights"))
  g_NoWord : mg "NoWord" = some (.ref (ga K "NoWord"))
  g_NoWords : mg "NoWords" = some (.ref (ga K "NoWords"))
  g_NotAdmitted : mg "NotAdmitted" = some (.ref (ga K "NotAdmitted"))
  g_NotGround : mg "NotGround" = some (.ref (ga K "NotGround"))
  g_NotLinear : mg "NotLinear" = some (.ref (ga K "NotLinear"))
  g_NotOrdered : mg "NotOrdered" = some (.ref (ga K "NotOrdered"))
  g_NotSame : mg "NotSame" = some (.ref (ga K "NotSame"))
  g_NotThere : mg "NotThere" = some (.ref (ga K "NotThere"))
  g_TermError : mg "TermError" = some (.ref (ga K "TermError"))
  g_TooGreat : mg "TooGreat" = some (.ref (ga K "TooGreat"))
  g_TooMany : mg "TooMany" = some (.ref (ga K "TooMany"))
  g_Twice : mg "Twice" = some (.ref (ga K "Twice"))
  g_Unended : mg "Unended" = some (.ref (ga K "Unended"))
  g_Unfinished : mg "Unfinished" = some (.ref (ga K "Unfinished"))
  g_Unlike : mg "Unlike" = some (.ref (ga K "Unlike"))
  g__law_box : mg "_law_box" = some (.ref (ga K "_law_box"))
  g__law_by_name : mg "_law_by_name" = some (.ref (ga K "_law_by_name"))
  g__law_by_place : mg "_law_by_place" = some (.ref (ga K "_law_by_place"))
  g__law_caught : mg "_law_caught" = some (.ref (ga K "_law_caught"))
  g__law_cell : mg "_law_cell" = some (.ref (ga K "_law_cell"))
  g__law_field : mg "_law_field" = some (.ref (ga K "_law_field"))
  g__law_others : mg "_law_others" = some (.ref (ga K "_law_others"))
  g__law_right : mg "_law_right" = some (.ref (ga K "_law_right"))
  g__law_sorts : mg "_law_sorts" = some (.ref (ga K "_law_sorts"))
  g__law_take : mg "_law_take" = some (.ref (ga K "_law_take"))
  g__law_thing : mg "_law_thing" = some (.ref (ga K "_law_thing"))
  g__law_very : mg "_law_very" = some (.ref (ga K "_law_very"))
  oB_dict : OwnB K "dict" (Cs_ K)
  oB_list : OwnB K "list" (Cs_ K)
  xb_TermError : OexB K (ga K "TermError")
  xe_NoCompleting : ExcF K (ga K "NoCompleting") "found"
  xe_NoEquations : ExcF K (ga K "NoEquations") "found"
  xe_NoMakers : ExcF K (ga K "NoMakers") "found"
  xe_NoModel : ExcF K (ga K "NoModel") "found"
  xe_NoNames : ExcF K (ga K "NoNames") "found"
  xe_NoOrder : ExcF K (ga K "NoOrder") "found"
  xe_NoStep : ExcF K (ga K "NoStep") "at"
  xe_NoTerm : ExcF K (ga K "NoTerm") "found"
  xe_NoWeights : ExcF K (ga K "NoWeights") "found"
  xe_NotAdmitted : ExcF K (ga K "NotAdmitted") "found"
  xe_NotGround : ExcF K (ga K "NotGround") "found"
  xe_NotLinear : ExcF K (ga K "NotLinear") "found"
  xe_NotOrdered : ExcF K (ga K "NotOrdered") "at"
  xe_NotSame : ExcF K (ga K "NotSame") "at"
  xe_Unfinished : ExcF K (ga K "Unfinished") "found"
  xf_at : ∀ C ∈ xc_at K, XfC K C ∧ PySem.W.findIn K (.ref C) "at" = some none
  xf_found : ∀ C ∈ xc_found K, XfC K C ∧ PySem.W.findIn K (.ref C) "found" = some none
  xi_NoCompleting : ∃ fd, FunD K "__init__" "NoCompleting.__init__" (defArgs (mth 45 0)) (defBody (mth 45 0)) (defScope (mth 45 0)) [] [] (ma K (ga K "NoCompleting") "__init__") fd
  xi_NoEquations : ∃ fd, FunD K "__init__" "NoEquations.__init__" (defArgs (mth 37 0)) (defBody (mth 37 0)) (defScope (mth 37 0)) [] [] (ma K (ga K "NoEquations") "__init__") fd
  xi_NoMakers : ∃ fd, FunD K "__init__" "NoMakers.__init__" (defArgs (mth 44 0)) (defBody (mth 44 0)) (defScope (mth 44 0)) [] [] (ma K (ga K "NoMakers") "__init__") fd
  xi_NoModel : ∃ fd, FunD K "__init__" "NoModel.__init__" (defArgs (mth 46 0)) (defBody (mth 46 0)) (defScope (mth 46 0)) [] [] (ma K (ga K "NoModel") "__init__") fd
  xi_NoNames : ∃ fd, FunD K "__init__" "NoNames.__init__" (defArgs (mth 35 0)) (defBody (mth 35 0)) (defScope (mth 35 0)) [] [] (ma K (ga K "NoNames") "__init__") fd
  xi_NoOrder : ∃ fd, FunD K "__init__" "NoOrder.__init__" (defArgs (mth 33 0)) (defBody (mth 33 0)) (defScope (mth 33 0)) [] [] (ma K (ga K "NoOrder") "__init__") fd
  xi_NoStep : ∃ fd, FunD K "__init__" "NoStep.__init__" (defArgs (mth 41 0)) (defBody (mth 41 0)) (defScope (mth 41 0)) [] [] (ma K (ga K "NoStep") "__init__") fd
  xi_NoTerm : ∃ fd, FunD K "__init__" "NoTerm.__init__" (defArgs (mth 11 0)) (defBody (mth 11 0)) (defScope (mth 11 0)) [] [] (ma K (ga K "NoTerm") "__init__") fd
  xi_NoWeights : ∃ fd, FunD K "__init__" "NoWeights.__init__" (defArgs (mth 34 0)) (defBody (mth 34 0)) (defScope (mth 34 0)) [] [] (ma K (ga K "NoWeights") "__init__") fd
  xi_NotAdmitted : ∃ fd, FunD K "__init__" "NotAdmitted.__init__" (defArgs (mth 36 0)) (defBody (mth 36 0)) (defScope (mth 36 0)) [] [] (ma K (ga K "NotAdmitted") "__init__") fd
  xi_NotGround : ∃ fd, FunD K "__init__" "NotGround.__init__" (defArgs (mth 38 0)) (defBody (mth 38 0)) (defScope (mth 38 0)) [] [] (ma K (ga K "NotGround") "__init__") fd
  xi_NotLinear : ∃ fd, FunD K "__init__" "NotLinear.__init__" (defArgs (mth 43 0)) (defBody (mth 43 0)) (defScope (mth 43 0)) [] [] (ma K (ga K "NotLinear") "__init__") fd
  xi_NotOrdered : ∃ fd, FunD K "__init__" "NotOrdered.__init__" (defArgs (mth 39 0)) (defBody (mth 39 0)) (defScope (mth 39 0)) [] [] (ma K (ga K "NotOrdered") "__init__") fd
  xi_NotSame : ∃ fd, FunD K "__init__" "NotSame.__init__" (defArgs (mth 40 0)) (defBody (mth 40 0)) (defScope (mth 40 0)) [] [] (ma K (ga K "NotSame") "__init__") fd
  xi_Unfinished : ∃ fd, FunD K "__init__" "Unfinished.__init__" (defArgs (mth 42 0)) (defBody (mth 42 0)) (defScope (mth 42 0)) [] [] (ma K (ga K "Unfinished") "__init__") fd
  xm_TermError : ∀ p ∈ xl_TermError K, PySem.W.exmAny K (.ref p.1) [.ref (ga K "TermError")] = some p.2
  xz_TermError : Exz K (ga K "TermError")
section
variable {P : Program} {w : World} {K : PySem.W.Frag} {mg : Str → Option Value} {base : Heap}
abbrev N__law_cell : List Str := ["script", "k"]
theorem sc__law_cell : FnScope N__law_cell ["script", "k"] (defScope (top 53)) := ⟨rfl, rfl, rfl, by decide +kernel, rfl, by decide +kernel, by decide +kernel⟩
def t__law_cell (K : PySem.W.Frag) [xc : XCt] : TS3 := (dSeq (dRet (dIfE (dTest (dOp (rDer (rCmp3 fun i j => decide (i < j))) (dView 1) (dCB (cDer (rLen3 K)) (dCons (dView 0) dNil)))) (dOp (rDer (rIxA3 K)) (dView 0) (dView 1)) (dOp (rDer rAdd3) (dOp (rDer rMul3) (dC (.int 15485933)) (dView 1)) (dC (.int 17)))))
    dNext)
theorem b__law_cell [xc : XCt] (fx : Fx K mg) {cdv : Value} {A : Around} {outer : List Env} {s : Shared} {H : Hp} {E : XK} (hr : Rm 0 (cxOf (L2N.CX P w) P w K mg base N__law_cell "_law_cell" (defScope (top 53)) (ga K "_law_cell") cdv A outer s H E)) :
    DSs (cxOf (L2N.CX P w) P w K mg base N__law_cell "_law_cell" (defScope (top 53)) (ga K "_law_cell") cdv A outer s H E) (defBody (top 53)) (t__law_cell K) := by
  have nd : (N__law_cell : List Str).Nodup := sc__law_cell.nd
  exact (dss_cons (ds_ret (d_ifE (dt_cmp (OpD.der od_lt) (vv 1) (.ofE (d_callB (CallD.der cd_len) (by rfl) (by exact fx.b_len) boot_len (dav_cons (vv 0) dav_nil))) rfl) (d_ixA (Nat.lt_of_le_of_lt (Nat.add_le_add_left (by decide : 1 ≤ 65) _) hr.u) (vv 0) (vv 1)) (d_op (OpD.der od_add) (.ofE (d_op (OpD.der od_mul) (.ofE d_int) (vv 1))) (.ofE d_int))))
    dss_nil)
theorem o__law_cell [xc : XCt] {Q : K3} {Y : X3} (xl : ∀ σ : St3, True → XLe Y σ) {E : Ends3} (hn : ∀ σ, NxS Q Y E.nx σ (pure .non)) (hrt : E.rt = Q) (script0 : D) (k'0 : D) :
    EvS Q Y (t__law_cell K) E [some (S3.dat script0), some (S3.dat k'0)] (m__law_cell K script0 k'0) := by
  obtain ⟨nx, rt, bk, ct, ro⟩ := E
  cases hrt
  unfold t__law_cell m__law_cell
  exact (s_ret0 (xl _ trivial) (fun _ _ q => q) (ev_ifE (ev_test (ev_op (ev_vd rfl) (ev_cb (ev_cons (ev_vd rfl) ev_nil)))) (ev_op (ev_vd rfl) (ev_vd rfl)) (ev_op (ev_op ev_c (ev_vd rfl)) ev_c)))
theorem q__law_cell (ds : List D) (n_ : Mem) (Q : K3) (Y : X3) (h : sp__law_cell K ds n_ Q Y) : @t__law_cell K ⟨fun e _ n' => Y e n'⟩ { nx := fun _ n' => Q .non n', rt := Q } (start3 N__law_cell ds) n_ := by
  obtain ⟨script0, k'0, rfl, h⟩ := h
  exact (@o__law_cell K ⟨fun e _ n' => Y e n'⟩ Q Y (fun _ _ _ _ q => q) _ (fun _ => ⟨fun _ q => q⟩) rfl script0 k'0).go n_ h
abbrev N__law_box : List Str := ["cell"]
theorem sc__law_box : FnScope N__law_box ["cell"] (defScope (top 54)) := ⟨rfl, rfl, rfl, by decide +kernel, rfl, by decide +kernel, by decide +kernel⟩
def t__law_box (K : PySem.W.Frag) [xc : XCt] : TS3 := (dSeq (dRet (dBox (nLst (dCons (dCB (cDer (rInt23 fun i j => if j > i then j else i)) (dCons (dC (.int 0)) (dCons (dOp (rDer rSub3) (dCB (cDer rAbs3) (dCons (dView 0) dNil)) (dOp (rDer rPow3) (dC (.int 10)) (dC (.int 18)))) dNil))) (dCons (dOp (rDer rMod3) (dCB (cDer rAbs3) (dCons (dView 0) dNil)) (dC (.int 2147483629))) (dCons (dC (.int 0)) dNil))))))
    dNext)
theorem b__law_box [xc : XCt] (fx : Fx K mg) {cdv : Value} {A : Around} {outer : List Env} {s : Shared} {H : Hp} {E : XK} (hr : Rm 0 (cxOf (L2N.CX P w) P w K mg base N__law_box "_law_box" (defScope (top 54)) (ga K "_law_box") cdv A outer s H E)) :
    DSs (cxOf (L2N.CX P w) P w K mg base N__law_box "_law_box" (defScope (top 54)) (ga K "_law_box") cdv A outer s H E) (defBody (top 54)) (t__law_box K) := by
  have nd : (N__law_box : List Str).Nodup := sc__law_box.nd
  exact (dss_cons (ds_ret (d_box (n_lst (da_cons (d_callB (CallD.der (cd_max2 rfl)) (by rfl) (by exact fx.b_max) boot_max (dav_cons (.ofE d_int) (dav_cons (.ofE (d_op (OpD.der od_sub) (.ofE (d_callB (CallD.der cd_abs) (by rfl) (by exact fx.b_abs) boot_abs (dav_cons (vv 0) dav_nil))) (.ofE (d_op (OpD.der od_pow) (.ofE d_int) (.ofE d_int))))) dav_nil))) (da_cons (d_op (OpD.der od_mod) (.ofE (d_callB (CallD.der cd_abs) (by rfl) (by exact fx.b_abs) boot_abs (dav_cons (vv 0) dav_nil))) (.ofE d_int)) (da_cons d_int da_nil))))))
    dss_nil)
theorem o__law_box [xc : XCt] {Q : K3} {Y : X3} (xl : ∀ σ : St3, True → XLe Y σ) {E : Ends3} (hn : ∀ σ, NxS Q Y E.nx σ (pure .non)) (hrt : E.rt = Q) (cell0 : D) :
    EvS Q Y (t__law_box K) E [some (S3.dat cell0)] (m__law_box K cell0) := by
  obtain ⟨nx, rt, bk, ct, ro⟩ := E
  cases hrt
  unfold t__law_box m__law_box
  exact (s_ret0 (xl _ trivial) (fun _ _ q => q) (ev_box (ev_lst (ev_cons (ev_cb (ev_cons ev_c (ev_cons (ev_op (ev_cb (ev_cons (ev_vd rfl) ev_nil)) (ev_op ev_c ev_c)) ev_nil))) (ev_cons (ev_op (ev_cb (ev_cons (ev_vd rfl) ev_nil)) ev_c) (ev_cons ev_c ev_nil))))))
theorem q__law_box (ds : List D) (n_ : Mem) (Q : K3) (Y : X3) (h : sp__law_box K ds n_ Q Y) : @t__law_box K ⟨fun e _ n' => Y e n'⟩ { nx := fun _ n' => Q .non n', rt := Q } (start3 N__law_box ds) n_ := by
  obtain ⟨cell0, rfl, h⟩ := h
  exact (@o__law_box K ⟨fun e _ n' => Y e n'⟩ Q Y (fun _ _ _ _ q => q) _ (fun _ => ⟨fun _ q => q⟩) rfl cell0).go n_ h
abbrev N__law_take : List Str := ["box", "many", "digit", "number"]
theorem sc__law_take : FnScope N__law_take ["box", "many"] (defScope (top 55)) := ⟨rfl, rfl, rfl, by decide +kernel, rfl, by decide +kernel, by decide +kernel⟩
def t__law_take (K : PySem.W.Frag) [xc : XCt] : TS3 := (dSeq (dIf (dTest (dOp (rDer (rCmp3 fun i j => decide (j < i))) (dBoxIx 0 (dVar 0)) (dC (.int 0))))
    (dSeq (dSet (dOp (rDer rMod3) (dBoxIx 0 (dVar 0)) (dView 1)) (gNm 2))
    (dSeq (dBoxSet 0 0 (dOp (rDer rDiv3) (dBoxIx 0 (dVar 0)) (dView 1)))
    (dSeq (dRet (dVar 2))
    dNext)))
    dNext)
    (dSeq (dBoxSet 0 2 (dOp (rDer rAdd3) (dBoxIx 2 (dVar 0)) (dC (.int 1))))
    (dSeq (dSet (dOp (rDer rMod3) (dOp (rDer rPow3) (dOp (rDer rAdd3) (dOp (rDer rAdd3) (dBoxIx 1 (dVar 0)) (dOp (rDer rMul3) (dC (.int 7919)) (dBoxIx 2 (dVar 0)))) (dC (.int 17))) (dC (.int 5))) (dC (.int 2147483647))) (gNm 3))
    (dSeq (dSet (dOp (rDer rMod3) (dOp (rDer rPow3) (dOp (rDer rAdd3) (dView 3) (dOp (rDer rMul3) (dC (.int 104729)) (dBoxIx 2 (dVar 0)))) (dC (.int 3))) (dC (.int 2147483587))) (gNm 3))
    (dSeq (dRet (dOp (rDer rMod3) (dOp (rDer rDiv3) (dView 3) (dC (.int 16))) (dView 1)))
    dNext)))))
theorem b__law_take [xc : XCt] (fx : Fx K mg) {cdv : Value} {A : Around} {outer : List Env} {s : Shared} {H : Hp} {E : XK} (hr : Rm 0 (cxOf (L2N.CX P w) P w K mg base N__law_take "_law_take" (defScope (top 55)) (ga K "_law_take") cdv A outer s H E)) :
    DSs (cxOf (L2N.CX P w) P w K mg base N__law_take "_law_take" (defScope (top 55)) (ga K "_law_take") cdv A outer s H E) (defBody (top 55)) (t__law_take K) := by
  have nd : (N__law_take : List Str).Nodup := sc__law_take.nd
  exact (dss_cons (ds_if (dt_cmp (OpD.der od_gt) (.ofE (d_boxIx (i := 0) (dv 0))) (.ofE d_int) rfl)
    (dss_cons (ds_set (i := 2) nd rfl (by first | exact Or.inl rfl | exact Or.inr rfl) (d_op (OpD.der od_mod) (.ofE (d_boxIx (i := 0) (dv 0))) (vv 1)))
    (dss_cons (ds_boxSet (i := 0) (ps_asg ((d_op (OpD.der od_div) (.ofE (d_boxIx (i := 0) (dv 0))) (vv 1))).pe (pg_sub (pv 0) pe_int set_list)))
    (dss_cons (ds_ret (dv 2))
    dss_nil)))
    dss_nil)
    (dss_cons (ds_boxSet (i := 2) (ps_asg ((d_op (OpD.der od_add) (.ofE (d_boxIx (i := 2) (dv 0))) (.ofE d_int))).pe (pg_sub (pv 0) pe_int set_list)))
    (dss_cons (ds_set (i := 3) nd rfl (by first | exact Or.inl rfl | exact Or.inr rfl) (d_op (OpD.der od_mod) (.ofE (d_op (OpD.der od_pow) (.ofE (d_op (OpD.der od_add) (.ofE (d_op (OpD.der od_add) (.ofE (d_boxIx (i := 1) (dv 0))) (.ofE (d_op (OpD.der od_mul) (.ofE d_int) (.ofE (d_boxIx (i := 2) (dv 0))))))) (.ofE d_int))) (.ofE d_int))) (.ofE d_int)))
    (dss_cons (ds_set (i := 3) nd rfl (by first | exact Or.inl rfl | exact Or.inr rfl) (d_op (OpD.der od_mod) (.ofE (d_op (OpD.der od_pow) (.ofE (d_op (OpD.der od_add) (vv 3) (.ofE (d_op (OpD.der od_mul) (.ofE d_int) (.ofE (d_boxIx (i := 2) (dv 0))))))) (.ofE d_int))) (.ofE d_int)))
    (dss_cons (ds_ret (d_op (OpD.der od_mod) (.ofE (d_op (OpD.der od_div) (vv 3) (.ofE d_int))) (vv 1)))
    dss_nil)))))
theorem o__law_take [xc : XCt] {Q : K3} {Y : X3} (xl : ∀ σ : St3, True → XLe Y σ) {E : Ends3} (hn : ∀ σ, NxS Q Y E.nx σ (pure .non)) (hrt : E.rt = Q) (box0 : D) (many0 : D) :
    EvS Q Y (t__law_take K) E [some (S3.dat box0), some (S3.dat many0), none, none] (m__law_take K box0 many0) := by
  obtain ⟨nx, rt, bk, ct, ro⟩ := E
  cases hrt
  unfold t__law_take m__law_take
  refine s_if (xl _ trivial) (ev_test (ev_op (ev_boxIx (ev_var rfl)) ev_c)) ?_ ?_
  · refine s_set (xl _ trivial) (ev_op (ev_boxIx (ev_var rfl)) (ev_vd rfl)) fun digit1 => ?_
    refine s_boxSet (xl _ trivial) rfl (ev_op (ev_boxIx (ev_var rfl)) (ev_vd rfl)) ?_
    exact (s_ret0 (xl _ trivial) (fun _ _ q => q) (ev_var rfl))
  · refine s_next (nx_of ?_)
    refine s_boxSet (xl _ trivial) rfl (ev_op (ev_boxIx (ev_var rfl)) ev_c) ?_
    refine s_set (xl _ trivial) (ev_op (ev_op (ev_op (ev_op (ev_boxIx (ev_var rfl)) (ev_op ev_c (ev_boxIx (ev_var rfl)))) ev_c) ev_c) ev_c) fun number2 => ?_
    refine s_set (xl _ trivial) (ev_op (ev_op (ev_op (ev_vd rfl) (ev_op ev_c (ev_boxIx (ev_var rfl)))) ev_c) ev_c) fun number3 => ?_
    exact (s_ret0 (xl _ trivial) (fun _ _ q => q) (ev_op (ev_op (ev_vd rfl) ev_c) (ev_vd rfl)))
theorem q__law_take (ds : List D) (n_ : Mem) (Q : K3) (Y : X3) (h : sp__law_take K ds n_ Q Y) : @t__law_take K ⟨fun e _ n' => Y e n'⟩ { nx := fun _ n' => Q .non n', rt := Q } (start3 N__law_take ds) n_ := by
  obtain ⟨box0, many0, rfl, h⟩ := h
  exact (@o__law_take K ⟨fun e _ n' => Y e n'⟩ Q Y (fun _ _ _ _ q => q) _ (fun _ => ⟨fun _ q => q⟩) rfl box0 many0).go n_ h
abbrev N__law_very : List Str := ["given", "thing"]
theorem sc__law_very : FnScope N__law_very ["given", "thing"] (defScope (top 56)) := ⟨rfl, rfl, rfl, by decide +kernel, rfl, by decide +kernel, by decide +kernel⟩
def t__law_very (K : PySem.W.Frag) [xc : XCt] : TS3 := (dSeq (dIf (dTest (dCB (cDer (rIsi3 (pZ K none (.type "list") (pB D.isLst (Cs_ K))) (.ty "list"))) (dCons (dView 1) (dCons (dC (.raw (.ty "list"))) dNil))))
    (dSeq (dAppC (dVar 1) (dC (.str "more")))
    dNext)
    dNext)
    (dSeq (dIf (dTest (dCB (cDer (rIsi3 (pZ K none (.type "dict") (pB D.isDct (Cs_ K))) (.ty "dict"))) (dCons (dView 1) (dCons (dC (.raw (.ty "dict"))) dNil))))
    (dSeq (dSetKC (dVar 1) (dC (.str "more")) (dC (.int 1)))
    dNext)
    dNext)
    (dSeq (dRet (dOp (rDer (rEqA3 false)) (dCB (cDer (rReprX3 K)) (dCons (dView 0) dNil)) (dCB (cDer (rReprX3 K)) (dCons (dView 1) dNil))))
    dNext)))
theorem b__law_very [xc : XCt] (fx : Fx K mg) {cdv : Value} {A : Around} {outer : List Env} {s : Shared} {H : Hp} {E : XK} (hr : Rm 0 (cxOf (L2N.CX P w) P w K mg base N__law_very "_law_very" (defScope (top 56)) (ga K "_law_very") cdv A outer s H E)) :
    DSs (cxOf (L2N.CX P w) P w K mg base N__law_very "_law_very" (defScope (top 56)) (ga K "_law_very") cdv A outer s H E) (defBody (top 56)) (t__law_very K) := by
  have nd : (N__law_very : List Str).Nodup := sc__law_very.nd
  exact (dss_cons (ds_if (dt_val (d_callB (CallD.der (cd_isiZ zok_none (is_lst fx.oB_list) (.ty "list"))) (by rfl) (by exact fx.b_isinstance) boot_isinstance (dav_cons (vv 1) (dav_cons (.ofE (d_bty (by rfl) (by exact fx.b_list) boot_list)) dav_nil))))
    (dss_cons (ds_appC (ps_expr (pe_bm PySem.F.plainAttrs_list PySem.F.slot_list_append PySem.F.type_list_append mt_append ((dv 1)).pe (pa_cons (d_str).pe pa_nil))))
    dss_nil)
    dss_nil)
    (dss_cons (ds_if (dt_val (d_callB (CallD.der (cd_isiZ zok_none (is_dct fx.oB_dict) (.ty "dict"))) (by rfl) (by exact fx.b_isinstance) boot_isinstance (dav_cons (vv 1) (dav_cons (.ofE (d_bty (by rfl) (by exact fx.b_dict) boot_dict)) dav_nil))))
    (dss_cons (ds_setKC (ps_dput (Nat.lt_of_le_of_lt (Nat.add_le_add_left (by decide : 1 ≤ 65) _) hr.u) ((dv 1)).pe (d_str).pe (d_int).pe rfl))
    dss_nil)
    dss_nil)
    (dss_cons (ds_ret (d_cmp (OpD.der (od_eqA (Nat.lt_of_succ_lt hr.u))) (.ofE (d_callB (CallD.der (cd_reprX hr.g hr.u)) (by rfl) (by exact fx.b_repr) boot_repr (dav_cons (vv 0) dav_nil))) (.ofE (d_callB (CallD.der (cd_reprX hr.g hr.u)) (by rfl) (by exact fx.b_repr) boot_repr (dav_cons (vv 1) dav_nil))) rfl))
    dss_nil)))
theorem o__law_very [xc : XCt] {Q : K3} {Y : X3} (xl : ∀ σ : St3, True → XLe Y σ) {E : Ends3} (hn : ∀ σ, NxS Q Y E.nx σ (pure .non)) (hrt : E.rt = Q) (given0 : D) (thing0 : D) :
    EvS Q Y (t__law_very K) E [some (S3.dat given0), some (S3.dat thing0)] (m__law_very K given0 thing0) := by
  obtain ⟨nx, rt, bk, ct, ro⟩ := E
  cases hrt
  unfold t__law_very m__law_very
  refine s_jn (fun (s1 : Unit) (σ' : St3) => σ' = [some (S3.dat given0), some (S3.dat thing0)]) (fun s1 σ' hs => ?_) fun j2 hj3 => ?_
  · subst hs
    refine s_jn (fun (s4 : Unit) (σ' : St3) => σ' = [some (S3.dat given0), some (S3.dat thing0)]) (fun s4 σ' hs => ?_) fun j5 hj6 => ?_
    · subst hs
      exact (s_ret0 (xl _ trivial) (fun _ _ q => q) (ev_op (ev_cb (ev_cons (ev_vd rfl) ev_nil)) (ev_cb (ev_cons (ev_vd rfl) ev_nil))))
    refine s_if (xl _ trivial) (ev_test (ev_cb (ev_cons (ev_vd rfl) (ev_cons ev_c ev_nil)))) ?_ ?_
    · refine s_setKC (xl _ trivial) ev_c (ev_var rfl) ev_c ?_
      exact s_next (hj6 _ _ rfl)
    · exact s_next (hj6 _ _ rfl)
  refine s_if (xl _ trivial) (ev_test (ev_cb (ev_cons (ev_vd rfl) (ev_cons ev_c ev_nil)))) ?_ ?_
  · refine s_appC (xl _ trivial) (ev_var rfl) ev_c ?_
    exact s_next (hj3 _ _ rfl)
  · exact s_next (hj3 _ _ rfl)
theorem q__law_very (ds : List D) (n_ : Mem) (Q : K3) (Y : X3) (h : sp__law_very K ds n_ Q Y) : @t__law_very K ⟨fun e _ n' => Y e n'⟩ { nx := fun _ n' => Q .non n', rt := Q } (start3 N__law_very ds) n_ := by
  obtain ⟨given0, thing0, rfl, h⟩ := h
  exact (@o__law_very K ⟨fun e _ n' => Y e n'⟩ Q Y (fun _ _ _ _ q => q) _ (fun _ => ⟨fun _ q => q⟩) rfl given0 thing0).go n_ h
abbrev N__law_by_place : List Str := ["one", "found"]
theorem sc__law_by_place : FnScope N__law_by_place ["one"] (defScope (top 57)) := ⟨rfl, rfl, rfl, by decide +kernel, rfl, by decide +kernel, by decide +kernel⟩
def t__law_by_place (K : PySem.W.Frag) [xc : XCt] : TS3 := (dSeq (dSet (eN (nLst (dCons (dMkX (ga K "NoOrder") "found" "no order" (dVar 0)) (dCons (dMkX (ga K "NoWeights") "found" "no list of weights" (dVar 0)) (dCons (dMkX (ga K "NoNames") "found" "no list of all names" (dVar 0)) (dCons (dMkX (ga K "NotAdmitted") "found" "a word that breaks the conditions of an order" (dVar 0)) (dCons (dMkX (ga K "NoEquations") "found" "no list of equations" (dVar 0)) dNil))))))) (gNm 1))
    (dSeq (dSet (dOp (rDer rAdd3) (dView 1) (eN (nLst (dCons (dMkX (ga K "NotGround") "found" "a term with letters" (dVar 0)) (dCons (dMkX (ga K "NotOrdered") "at" "sides of which neither is greater" (dVar 0)) (dCons (dMkX (ga K "NotSame") "at" "sides that are not the same" (dVar 0)) (dCons (dMkX (ga K "NoStep") "at" "nothing that can be rewritten" (dVar 0)) (dCons (dMkX (ga K "Unfinished") "found" "a completion that is not finished" (dVar 0)) dNil)))))))) (gNm 1))
    (dSeq (dSet (dOp (rDer rAdd3) (dView 1) (eN (nLst (dCons (dMkX (ga K "NotLinear") "found" "a pattern with a letter that stands twice" (dVar 0)) (dCons (dMkX (ga K "NoMakers") "found" "no list of makers" (dVar 0)) (dCons (dMkX (ga K "NoCompleting") "found" "no completion" (dVar 0)) (dCons (dMkX (ga K "NoModel") "found" "no model" (dVar 0)) dNil))))))) (gNm 1))
    (dSeq (dRet (dVar 1))
    dNext))))
theorem b__law_by_place [xc : XCt] (fx : Fx K mg) (p_mk_NoCompleting : Exr3 P w K mg base 1 (ga K "NoCompleting") "found" "no completion" "found") (p_mk_NoEquations : Exr3 P w K mg base 1 (ga K "NoEquations") "found" "no list of equations" "found") (p_mk_NoMakers : Exr3 P w K mg base 1 (ga K "NoMakers") "found" "no list of makers" "found") (p_mk_NoModel : Exr3 P w K mg base 1 (ga K "NoModel") "found" "no model" "found") (p_mk_NoNames : Exr3 P w K mg base 1 (ga K "NoNames") "found" "no list of all names" "found") (p_mk_NoOrder : Exr3 P w K mg base 1 (ga K "NoOrder") "found" "no order" "found") (p_mk_NoStep : Exr3 P w K mg base 1 (ga K "NoStep") "at" "nothing that can be rewritten" "at") (p_mk_NoWeights : Exr3 P w K mg base 1 (ga K "NoWeights") "found" "no list of weights" "found") (p_mk_NotAdmitted : Exr3 P w K mg base 1 (ga K "NotAdmitted") "found" "a word that breaks the conditions of an order" "found") (p_mk_NotGround : Exr3 P w K mg base 1 (ga K "NotGround") "found" "a term with letters" "found") (p_mk_NotLinear : Exr3 P w K mg base 1 (ga K "NotLinear") "found" "a pattern with a letter that stands twice" "found") (p_mk_NotOrdered : Exr3 P w K mg base 1 (ga K "NotOrdered") "at" "sides of which neither is greater" "at") (p_mk_NotSame : Exr3 P w K mg base 1 (ga K "NotSame") "at" "sides that are not the same" "at") (p_mk_Unfinished : Exr3 P w K mg base 1 (ga K "Unfinished") "found" "a completion that is not finished" "found") {cdv : Value} {A : Around} {outer : List Env} {s : Shared} {H : Hp} {E : XK} (hr : Rm 2 (cxOf (L2N.CX P w) P w K mg base N__law_by_place "_law_by_place" (defScope (top 57)) (ga K "_law_by_place") cdv A outer s H E)) :
    DSs (cxOf (L2N.CX P w) P w K mg base N__law_by_place "_law_by_place" (defScope (top 57)) (ga K "_law_by_place") cdv A outer s H E) (defBody (top 57)) (t__law_by_place K) := by
  have nd : (N__law_by_place : List Str).Nodup := sc__law_by_place.nd
  exact (dss_cons (ds_set (i := 1) nd rfl (by first | exact Or.inl rfl | exact Or.inr rfl) (e_n (n_lst (da_cons (d_mkx p_mk_NoOrder ⟨hr.r, hr.g⟩ (by exact fx.g_NoOrder) (dv 0)) (da_cons (d_mkx p_mk_NoWeights ⟨hr.r, hr.g⟩ (by exact fx.g_NoWeights) (dv 0)) (da_cons (d_mkx p_mk_NoNames ⟨hr.r, hr.g⟩ (by exact fx.g_NoNames) (dv 0)) (da_cons (d_mkx p_mk_NotAdmitted ⟨hr.r, hr.g⟩ (by exact fx.g_NotAdmitted) (dv 0)) (da_cons (d_mkx p_mk_NoEquations ⟨hr.r, hr.g⟩ (by exact fx.g_NoEquations) (dv 0)) da_nil))))))))
    (dss_cons (ds_set (i := 1) nd rfl (by first | exact Or.inl rfl | exact Or.inr rfl) (d_op (OpD.der od_add) (vv 1) (.ofE (e_n (n_lst (da_cons (d_mkx p_mk_NotGround ⟨hr.r, hr.g⟩ (by exact fx.g_NotGround) (dv 0)) (da_cons (d_mkx p_mk_NotOrdered ⟨hr.r, hr.g⟩ (by exact fx.g_NotOrdered) (dv 0)) (da_cons (d_mkx p_mk_NotSame ⟨hr.r, hr.g⟩ (by exact fx.g_NotSame) (dv 0)) (da_cons (d_mkx p_mk_NoStep ⟨hr.r, hr.g⟩ (by exact fx.g_NoStep) (dv 0)) (da_cons (d_mkx p_mk_Unfinished ⟨hr.r, hr.g⟩ (by exact fx.g_Unfinished) (dv 0)) da_nil))))))))))
    (dss_cons (ds_set (i := 1) nd rfl (by first | exact Or.inl rfl | exact Or.inr rfl) (d_op (OpD.der od_add) (vv 1) (.ofE (e_n (n_lst (da_cons (d_mkx p_mk_NotLinear ⟨hr.r, hr.g⟩ (by exact fx.g_NotLinear) (dv 0)) (da_cons (d_mkx p_mk_NoMakers ⟨hr.r, hr.g⟩ (by exact fx.g_NoMakers) (dv 0)) (da_cons (d_mkx p_mk_NoCompleting ⟨hr.r, hr.g⟩ (by exact fx.g_NoCompleting) (dv 0)) (da_cons (d_mkx p_mk_NoModel ⟨hr.r, hr.g⟩ (by exact fx.g_NoModel) (dv 0)) da_nil)))))))))
    (dss_cons (ds_ret (dv 1))
    dss_nil))))
theorem o__law_by_place [xc : XCt] {Q : K3} {Y : X3} (xl : ∀ σ : St3, True → XLe Y σ) {E : Ends3} (hn : ∀ σ, NxS Q Y E.nx σ (pure .non)) (hrt : E.rt = Q) (one0 : D) :
    EvS Q Y (t__law_by_place K) E [some (S3.dat one0), none] (m__law_by_place K one0) := by
  obtain ⟨nx, rt, bk, ct, ro⟩ := E
  cases hrt
  unfold t__law_by_place m__law_by_place
  refine s_set (xl _ trivial) (ev_eN (ev_lst (ev_cons (ev_mkX (ev_var rfl)) (ev_cons (ev_mkX (ev_var rfl)) (ev_cons (ev_mkX (ev_var rfl)) (ev_cons (ev_mkX (ev_var rfl)) (ev_cons (ev_mkX (ev_var rfl)) ev_nil))))))) fun found1 => ?_
  refine s_set (xl _ trivial) (ev_op (ev_vd rfl) (ev_eN (ev_lst (ev_cons (ev_mkX (ev_var rfl)) (ev_cons (ev_mkX (ev_var rfl)) (ev_cons (ev_mkX (ev_var rfl)) (ev_cons (ev_mkX (ev_var rfl)) (ev_cons (ev_mkX (ev_var rfl)) ev_nil)))))))) fun found2 => ?_
  refine s_set (xl _ trivial) (ev_op (ev_vd rfl) (ev_eN (ev_lst (ev_cons (ev_mkX (ev_var rfl)) (ev_cons (ev_mkX (ev_var rfl)) (ev_cons (ev_mkX (ev_var rfl)) (ev_cons (ev_mkX (ev_var rfl)) ev_nil))))))) fun found3 => ?_
  exact (s_ret0 (xl _ trivial) (fun _ _ q => q) (ev_var rfl))
theorem q__law_by_place (ds : List D) (n_ : Mem) (Q : K3) (Y : X3) (h : sp__law_by_place K ds n_ Q Y) : @t__law_by_place K ⟨fun e _ n' => Y e n'⟩ { nx := fun _ n' => Q .non n', rt := Q } (start3 N__law_by_place ds) n_ := by
  obtain ⟨one0, rfl, h⟩ := h
  exact (@o__law_by_place K ⟨fun e _ n' => Y e n'⟩ Q Y (fun _ _ _ _ q => q) _ (fun _ => ⟨fun _ q => q⟩) rfl one0).go n_ h
abbrev N__law_by_name : List Str := ["one", "found"]
theorem sc__law_by_name : FnScope N__law_by_name ["one"] (defScope (top 58)) := ⟨rfl, rfl, rfl, by decide +kernel, rfl, by decide +kernel, by decide +kernel⟩
def t__law_by_name (K : PySem.W.Frag) [xc : XCt] : TS3 := (dSeq (dSet (eN (nLst (dCons (dMkK (ga K "NoOrder") "found" "no order" (dCons (dVar 0) dNil)) (dCons (dMkK (ga K "NoWeights") "found" "no list of weights" (dCons (dVar 0) dNil)) (dCons (dMkK (ga K "NoNames") "found" "no list of all names" (dCons (dVar 0) dNil)) (dCons (dMkK (ga K "NotAdmitted") "found" "a word that breaks the conditions of an order" (dCons (dVar 0) dNil)) dNil)))))) (gNm 1))
    (dSeq (dSet (dOp (rDer rAdd3) (dView 1) (eN (nLst (dCons (dMkK (ga K "NoEquations") "found" "no list of equations" (dCons (dVar 0) dNil)) (dCons (dMkK (ga K "NotGround") "found" "a term with letters" (dCons (dVar 0) dNil)) (dCons (dMkK (ga K "NotOrdered") "at" "sides of which neither is greater" (dCons (dVar 0) dNil)) (dCons (dMkK (ga K "NotSame") "at" "sides that are not the same" (dCons (dVar 0) dNil)) dNil))))))) (gNm 1))
    (dSeq (dSet (dOp (rDer rAdd3) (dView 1) (eN (nLst (dCons (dMkK (ga K "NoStep") "at" "nothing that can be rewritten" (dCons (dVar 0) dNil)) (dCons (dMkK (ga K "Unfinished") "found" "a completion that is not finished" (dCons (dVar 0) dNil)) (dCons (dMkK (ga K "NotLinear") "found" "a pattern with a letter that stands twice" (dCons (dVar 0) dNil)) (dCons (dMkK (ga K "NoMakers") "found" "no list of makers" (dCons (dVar 0) dNil)) dNil))))))) (gNm 1))
    (dSeq (dSet (dOp (rDer rAdd3) (dView 1) (eN (nLst (dCons (dMkK (ga K "NoCompleting") "found" "no completion" (dCons (dVar 0) dNil)) (dCons (dMkK (ga K "NoModel") "found" "no model" (dCons (dVar 0) dNil)) dNil))))) (gNm 1))
    (dSeq (dRet (dVar 1))
    dNext)))))
theorem b__law_by_name [xc : XCt] (fx : Fx K mg) (p_mk_NoCompleting : Exr3 P w K mg base 1 (ga K "NoCompleting") "found" "no completion" "found") (p_mk_NoEquations : Exr3 P w K mg base 1 (ga K "NoEquations") "found" "no list of equations" "found") (p_mk_NoMakers : Exr3 P w K mg base 1 (ga K "NoMakers") "found" "no list of makers" "found") (p_mk_NoModel : Exr3 P w K mg base 1 (ga K "NoModel") "found" "no model" "found") (p_mk_NoNames : Exr3 P w K mg base 1 (ga K "NoNames") "found" "no list of all names" "found") (p_mk_NoOrder : Exr3 P w K mg base 1 (ga K "NoOrder") "found" "no order" "found") (p_mk_NoStep : Exr3 P w K mg base 1 (ga K "NoStep") "at" "nothing that can be rewritten" "at") (p_mk_NoWeights : Exr3 P w K mg base 1 (ga K "NoWeights") "found" "no list of weights" "found") (p_mk_NotAdmitted : Exr3 P w K mg base 1 (ga K "NotAdmitted") "found" "a word that breaks the conditions of an order" "found") (p_mk_NotGround : Exr3 P w K mg base 1 (ga K "NotGround") "found" "a term with letters" "found") (p_mk_NotLinear : Exr3 P w K mg base 1 (ga K "NotLinear") "found" "a pattern with a letter that stands twice" "found") (p_mk_NotOrdered : Exr3 P w K mg base 1 (ga K "NotOrdered") "at" "sides of which neither is greater" "at") (p_mk_NotSame : Exr3 P w K mg base 1 (ga K "NotSame") "at" "sides that are not the same" "at") (p_mk_Unfinished : Exr3 P w K mg base 1 (ga K "Unfinished") "found" "a completion that is not finished" "found") {cdv : Value} {A : Around} {outer : List Env} {s : Shared} {H : Hp} {E : XK} (hr : Rm 2 (cxOf (L2N.CX P w) P w K mg base N__law_by_name "_law_by_name" (defScope (top 58)) (ga K "_law_by_name") cdv A outer s H E)) :
    DSs (cxOf (L2N.CX P w) P w K mg base N__law_by_name "_law_by_name" (defScope (top 58)) (ga K "_law_by_name") cdv A outer s H E) (defBody (top 58)) (t__law_by_name K) := by
  have nd : (N__law_by_name : List Str).Nodup := sc__law_by_name.nd
  exact (dss_cons (ds_set (i := 1) nd rfl (by first | exact Or.inl rfl | exact Or.inr rfl) (e_n (n_lst (da_cons (d_mkk p_mk_NoOrder ⟨hr.r, hr.g⟩ (by exact fx.g_NoOrder) (dk_cons (dv 0) dk_nil)) (da_cons (d_mkk p_mk_NoWeights ⟨hr.r, hr.g⟩ (by exact fx.g_NoWeights) (dk_cons (dv 0) dk_nil)) (da_cons (d_mkk p_mk_NoNames ⟨hr.r, hr.g⟩ (by exact fx.g_NoNames) (dk_cons (dv 0) dk_nil)) (da_cons (d_mkk p_mk_NotAdmitted ⟨hr.r, hr.g⟩ (by exact fx.g_NotAdmitted) (dk_cons (dv 0) dk_nil)) da_nil)))))))
    (dss_cons (ds_set (i := 1) nd rfl (by first | exact Or.inl rfl | exact Or.inr rfl) (d_op (OpD.der od_add) (vv 1) (.ofE (e_n (n_lst (da_cons (d_mkk p_mk_NoEquations ⟨hr.r, hr.g⟩ (by exact fx.g_NoEquations) (dk_cons (dv 0) dk_nil)) (da_cons (d_mkk p_mk_NotGround ⟨hr.r, hr.g⟩ (by exact fx.g_NotGround) (dk_cons (dv 0) dk_nil)) (da_cons (d_mkk p_mk_NotOrdered ⟨hr.r, hr.g⟩ (by exact fx.g_NotOrdered) (dk_cons (dv 0) dk_nil)) (da_cons (d_mkk p_mk_NotSame ⟨hr.r, hr.g⟩ (by exact fx.g_NotSame) (dk_cons (dv 0) dk_nil)) da_nil)))))))))
    (dss_cons (ds_set (i := 1) nd rfl (by first | exact Or.inl rfl | exact Or.inr rfl) (d_op (OpD.der od_add) (vv 1) (.ofE (e_n (n_lst (da_cons (d_mkk p_mk_NoStep ⟨hr.r, hr.g⟩ (by exact fx.g_NoStep) (dk_cons (dv 0) dk_nil)) (da_cons (d_mkk p_mk_Unfinished ⟨hr.r, hr.g⟩ (by exact fx.g_Unfinished) (dk_cons (dv 0) dk_nil)) (da_cons (d_mkk p_mk_NotLinear ⟨hr.r, hr.g⟩ (by exact fx.g_NotLinear) (dk_cons (dv 0) dk_nil)) (da_cons (d_mkk p_mk_NoMakers ⟨hr.r, hr.g⟩ (by exact fx.g_NoMakers) (dk_cons (dv 0) dk_nil)) da_nil)))))))))
    (dss_cons (ds_set (i := 1) nd rfl (by first | exact Or.inl rfl | exact Or.inr rfl) (d_op (OpD.der od_add) (vv 1) (.ofE (e_n (n_lst (da_cons (d_mkk p_mk_NoCompleting ⟨hr.r, hr.g⟩ (by exact fx.g_NoCompleting) (dk_cons (dv 0) dk_nil)) (da_cons (d_mkk p_mk_NoModel ⟨hr.r, hr.g⟩ (by exact fx.g_NoModel) (dk_cons (dv 0) dk_nil)) da_nil)))))))
    (dss_cons (ds_ret (dv 1))
    dss_nil)))))
theorem o__law_by_name [xc : XCt] {Q : K3} {Y : X3} (xl : ∀ σ : St3, True → XLe Y σ) {E : Ends3} (hn : ∀ σ, NxS Q Y E.nx σ (pure .non)) (hrt : E.rt = Q) (one0 : D) :
    EvS Q Y (t__law_by_name K) E [some (S3.dat one0), none] (m__law_by_name K one0) := by
  obtain ⟨nx, rt, bk, ct, ro⟩ := E
  cases hrt
  unfold t__law_by_name m__law_by_name
  refine s_set (xl _ trivial) (ev_eN (ev_lst (ev_cons (ev_mkK (ev_cons (ev_var rfl) ev_nil)) (ev_cons (ev_mkK (ev_cons (ev_var rfl) ev_nil)) (ev_cons (ev_mkK (ev_cons (ev_var rfl) ev_nil)) (ev_cons (ev_mkK (ev_cons (ev_var rfl) ev_nil)) ev_nil)))))) fun found1 => ?_
  refine s_set (xl _ trivial) (ev_op (ev_vd rfl) (ev_eN (ev_lst (ev_cons (ev_mkK (ev_cons (ev_var rfl) ev_nil)) (ev_cons (ev_mkK (ev_cons (ev_var rfl) ev_nil)) (ev_cons (ev_mkK (ev_cons (ev_var rfl) ev_nil)) (ev_cons (ev_mkK (ev_cons (ev_var rfl) ev_nil)) ev_nil))))))) fun found2 => ?_
  refine s_set (xl _ trivial) (ev_op (ev_vd rfl) (ev_eN (ev_lst (ev_cons (ev_mkK (ev_cons (ev_var rfl) ev_nil)) (ev_cons (ev_mkK (ev_cons (ev_var rfl) ev_nil)) (ev_cons (ev_mkK (ev_cons (ev_var rfl) ev_nil)) (ev_cons (ev_mkK (ev_cons (ev_var rfl) ev_nil)) ev_nil))))))) fun found3 => ?_
  refine s_set (xl _ trivial) (ev_op (ev_vd rfl) (ev_eN (ev_lst (ev_cons (ev_mkK (ev_cons (ev_var rfl) ev_nil)) (ev_cons (ev_mkK (ev_cons (ev_var rfl) ev_nil)) ev_nil))))) fun found4 => ?_
  exact (s_ret0 (xl _ trivial) (fun _ _ q => q) (ev_var rfl))
theorem q__law_by_name (ds : List D) (n_ : Mem) (Q : K3) (Y : X3) (h : sp__law_by_name K ds n_ Q Y) : @t__law_by_name K ⟨fun e _ n' => Y e n'⟩ { nx := fun _ n' => Q .non n', rt := Q } (start3 N__law_by_name ds) n_ := by
  obtain ⟨one0, rfl, h⟩ := h
  exact (@o__law_by_name K ⟨fun e _ n' => Y e n'⟩ Q Y (fun _ _ _ _ q => q) _ (fun _ => ⟨fun _ q => q⟩) rfl one0).go n_ h
abbrev N__law_sorts : List Str := ["e", "found"]
theorem sc__law_sorts : FnScope N__law_sorts ["e"] (defScope (top 59)) := ⟨rfl, rfl, rfl, by decide +kernel, rfl, by decide +kernel, by decide +kernel⟩
def t__law_sorts (z : Zx) (K : PySem.W.Frag) [xc : XCt] : TS3 := (dSeq (dSet (eN (nLst (dCons (dCB (cDer (rIsi3 (pZ K z (.ref (ga K "NoOrder")) (fun _ => none)) (.ref (ga K "NoOrder")))) (dCons (dView 0) (dCons (dC (.raw (.ref (ga K "NoOrder")))) dNil))) (dCons (dCB (cDer (rIsi3 (pZ K z (.ref (ga K "NoWeights")) (fun _ => none)) (.ref (ga K "NoWeights")))) (dCons (dView 0) (dCons (dC (.raw (.ref (ga K "NoWeights")))) dNil))) (dCons (dCB (cDer (rIsi3 (pZ K z (.ref (ga K "NoNames")) (fun _ => none)) (.ref (ga K "NoNames")))) (dCons (dView 0) (dCons (dC (.raw (.ref (ga K "NoNames")))) dNil))) dNil))))) (gNm 1))
    (dSeq (dSet (dOp (rDer rAdd3) (dView 1) (eN (nLst (dCons (dCB (cDer (rIsi3 (pZ K z (.ref (ga K "NotAdmitted")) (fun _ => none)) (.ref (ga K "NotAdmitted")))) (dCons (dView 0) (dCons (dC (.raw (.ref (ga K "NotAdmitted")))) dNil))) (dCons (dCB (cDer (rIsi3 (pZ K z (.ref (ga K "NoEquations")) (fun _ => none)) (.ref (ga K "NoEquations")))) (dCons (dView 0) (dCons (dC (.raw (.ref (ga K "NoEquations")))) dNil))) (dCons (dCB (cDer (rIsi3 (pZ K z (.ref (ga K "NotGround")) (fun _ => none)) (.ref (ga K "NotGround")))) (dCons (dView 0) (dCons (dC (.raw (.ref (ga K "NotGround")))) dNil))) dNil)))))) (gNm 1))
    (dSeq (dSet (dOp (rDer rAdd3) (dView 1) (eN (nLst (dCons (dCB (cDer (rIsi3 (pZ K z (.ref (ga K "NotOrdered")) (fun _ => none)) (.ref (ga K "NotOrdered")))) (dCons (dView 0) (dCons (dC (.raw (.ref (ga K "NotOrdered")))) dNil))) (dCons (dCB (cDer (rIsi3 (pZ K z (.ref (ga K "NotSame")) (fun _ => none)) (.ref (ga K "NotSame")))) (dCons (dView 0) (dCons (dC (.raw (.ref (ga K "NotSame")))) dNil))) (dCons (dCB (cDer (rIsi3 (pZ K z (.ref (ga K "NoStep")) (fun _ => none)) (.ref (ga K "NoStep")))) (dCons (dView 0) (dCons (dC (.raw (.ref (ga K "NoStep")))) dNil))) dNil)))))) (gNm 1))
    (dSeq (dSet (dOp (rDer rAdd3) (dView 1) (eN (nLst (dCons (dCB (cDer (rIsi3 (pZ K z (.ref (ga K "Unfinished")) (fun _ => none)) (.ref (ga K "Unfinished")))) (dCons (dView 0) (dCons (dC (.raw (.ref (ga K "Unfinished")))) dNil))) (dCons (dCB (cDer (rIsi3 (pZ K z (.ref (ga K "NotLinear")) (fun _ => none)) (.ref (ga K "NotLinear")))) (dCons (dView 0) (dCons (dC (.raw (.ref (ga K "NotLinear")))) dNil))) (dCons (dCB (cDer (rIsi3 (pZ K z (.ref (ga K "NoMakers")) (fun _ => none)) (.ref (ga K "NoMakers")))) (dCons (dView 0) (dCons (dC (.raw (.ref (ga K "NoMakers")))) dNil))) dNil)))))) (gNm 1))
    (dSeq (dSet (dOp (rDer rAdd3) (dView 1) (eN (nLst (dCons (dCB (cDer (rIsi3 (pZ K z (.ref (ga K "NoCompleting")) (fun _ => none)) (.ref (ga K "NoCompleting")))) (dCons (dView 0) (dCons (dC (.raw (.ref (ga K "NoCompleting")))) dNil))) (dCons (dCB (cDer (rIsi3 (pZ K z (.ref (ga K "NoModel")) (fun _ => none)) (.ref (ga K "NoModel")))) (dCons (dView 0) (dCons (dC (.raw (.ref (ga K "NoModel")))) dNil))) dNil))))) (gNm 1))
    (dSeq (dRet (dVar 1))
    dNext))))))
theorem b__law_sorts [xc : XCt] (fx : Fx K mg) {cdv : Value} {A : Around} {outer : List Env} {s : Shared} {H : Hp} {E : XK} (hr : Rm 0 (cxOf (L2N.CX P w) P w K mg base N__law_sorts "_law_sorts" (defScope (top 59)) (ga K "_law_sorts") cdv A outer s H E)) :
    DSs (cxOf (L2N.CX P w) P w K mg base N__law_sorts "_law_sorts" (defScope (top 59)) (ga K "_law_sorts") cdv A outer s H E) (defBody (top 59)) (t__law_sorts none K) := by
  have nd : (N__law_sorts : List Str).Nodup := sc__law_sorts.nd
  have hzx : ZOk (cxOf (L2N.CX P w) P w K mg base N__law_sorts "_law_sorts" (defScope (top 59)) (ga K "_law_sorts") cdv A outer s H E) none := zok_none
  exact (dss_cons (ds_set (i := 1) nd rfl (by first | exact Or.inl rfl | exact Or.inr rfl) (e_n (n_lst (da_cons (d_callB (CallD.der (cd_isiZ hzx isP_none (.own _))) (by rfl) (by exact fx.b_isinstance) boot_isinstance (dav_cons (vv 0) (dav_cons (.ofE (d_cls (by rfl) (by exact fx.g_NoOrder))) dav_nil))) (da_cons (d_callB (CallD.der (cd_isiZ hzx isP_none (.own _))) (by rfl) (by exact fx.b_isinstance) boot_isinstance (dav_cons (vv 0) (dav_cons (.ofE (d_cls (by rfl) (by exact fx.g_NoWeights))) dav_nil))) (da_cons (d_callB (CallD.der (cd_isiZ hzx isP_none (.own _))) (by rfl) (by exact fx.b_isinstance) boot_isinstance (dav_cons (vv 0) (dav_cons (.ofE (d_cls (by rfl) (by exact fx.g_NoNames))) dav_nil))) da_nil))))))
    (dss_cons (ds_set (i := 1) nd rfl (by first | exact Or.inl rfl | exact Or.inr rfl) (d_op (OpD.der od_add) (vv 1) (.ofE (e_n (n_lst (da_cons (d_callB (CallD.der (cd_isiZ hzx isP_none (.own _))) (by rfl) (by exact fx.b_isinstance) boot_isinstance (dav_cons (vv 0) (dav_cons (.ofE (d_cls (by rfl) (by exact fx.g_NotAdmitted))) dav_nil))) (da_cons (d_callB (CallD.der (cd_isiZ hzx isP_none (.own _))) (by rfl) (by exact fx.b_isinstance) boot_isinstance (dav_cons (vv 0) (dav_cons (.ofE (d_cls (by rfl) (by exact fx.g_NoEquations))) dav_nil))) (da_cons (d_callB (CallD.der (cd_isiZ hzx isP_none (.own _))) (by rfl) (by exact fx.b_isinstance) boot_isinstance (dav_cons (vv 0) (dav_cons (.ofE (d_cls (by rfl) (by exact fx.g_NotGround))) dav_nil))) da_nil))))))))
    (dss_cons (ds_set (i := 1) nd rfl (by first | exact Or.inl rfl | exact Or.inr rfl) (d_op (OpD.der od_add) (vv 1) (.ofE (e_n (n_lst (da_cons (d_callB (CallD.der (cd_isiZ hzx isP_none (.own _))) (by rfl) (by exact fx.b_isinstance) boot_isinstance (dav_cons (vv 0) (dav_cons (.ofE (d_cls (by rfl) (by exact fx.g_NotOrdered))) dav_nil))) (da_cons (d_callB (CallD.der (cd_isiZ hzx isP_none (.own _))) (by rfl) (by exact fx.b_isinstance) boot_isinstance (dav_cons (vv 0) (dav_cons (.ofE (d_cls (by rfl) (by exact fx.g_NotSame))) dav_nil))) (da_cons (d_callB (CallD.der (cd_isiZ hzx isP_none (.own _))) (by rfl) (by exact fx.b_isinstance) boot_isinstance (dav_cons (vv 0) (dav_cons (.ofE (d_cls (by rfl) (by exact fx.g_NoStep))) dav_nil))) da_nil))))))))
    (dss_cons (ds_set (i := 1) nd rfl (by first | exact Or.inl rfl | exact Or.inr rfl) (d_op (OpD.der od_add) (vv 1) (.ofE (e_n (n_lst (da_cons (d_callB (CallD.der (cd_isiZ hzx isP_none (.own _))) (by rfl) (by exact fx.b_isinstance) boot_isinstance (dav_cons (vv 0) (dav_cons (.ofE (d_cls (by rfl) (by exact fx.g_Unfinished))) dav_nil))) (da_cons (d_callB (CallD.der (cd_isiZ hzx isP_none (.own _))) (by rfl) (by exact fx.b_isinstance) boot_isinstance (dav_cons (vv 0) (dav_cons (.ofE (d_cls (by rfl) (by exact fx.g_NotLinear))) dav_nil))) (da_cons (d_callB (CallD.der (cd_isiZ hzx isP_none (.own _))) (by rfl) (by exact fx.b_isinstance) boot_isinstance (dav_cons (vv 0) (dav_cons (.ofE (d_cls (by rfl) (by exact fx.g_NoMakers))) dav_nil))) da_nil))))))))
    (dss_cons (ds_set (i := 1) nd rfl (by first | exact Or.inl rfl | exact Or.inr rfl) (d_op (OpD.der od_add) (vv 1) (.ofE (e_n (n_lst (da_cons (d_callB (CallD.der (cd_isiZ hzx isP_none (.own _))) (by rfl) (by exact fx.b_isinstance) boot_isinstance (dav_cons (vv 0) (dav_cons (.ofE (d_cls (by rfl) (by exact fx.g_NoCompleting))) dav_nil))) (da_cons (d_callB (CallD.der (cd_isiZ hzx isP_none (.own _))) (by rfl) (by exact fx.b_isinstance) boot_isinstance (dav_cons (vv 0) (dav_cons (.ofE (d_cls (by rfl) (by exact fx.g_NoModel))) dav_nil))) da_nil)))))))
    (dss_cons (ds_ret (dv 1))
    dss_nil))))))
theorem bZ__law_sorts [xc : XCt] (fx : Fx K mg) {pz : Addr × Obj} {C : Addr} {d : Option Addr} (hz : L2N.Zn (.ref C) d pz.2) (hf : ∃ vs, pz.2.data = .fields vs) {cdv : Value} {A : Around} {outer : List Env} {s : Shared} {H : Hp} {E : XK} (hr : RmH 0 (L2H.cxH (L2N.CX P w) P w K mg base N__law_sorts "_law_sorts" (defScope (top 59)) (ga K "_law_sorts") cdv A outer s H E pz)) :
    DSs (L2H.cxH (L2N.CX P w) P w K mg base N__law_sorts "_law_sorts" (defScope (top 59)) (ga K "_law_sorts") cdv A outer s H E pz) (defBody (top 59)) (t__law_sorts (some (pz.1, C, d)) K) := by
  have nd : (N__law_sorts : List Str).Nodup := sc__law_sorts.nd
  have hzx : ZOk (L2H.cxH (L2N.CX P w) P w K mg base N__law_sorts "_law_sorts" (defScope (top 59)) (ga K "_law_sorts") cdv A outer s H E pz) (some (pz.1, C, d)) := zok_def hz hf
  exact (dss_cons (ds_set (i := 1) nd rfl (by first | exact Or.inl rfl | exact Or.inr rfl) (e_n (n_lst (da_cons (d_callB (CallD.der (cd_isiZ hzx isP_none (.own _))) (by rfl) (by exact fx.b_isinstance) boot_isinstance (dav_cons (vv 0) (dav_cons (.ofE (d_cls (by rfl) (by exact fx.g_NoOrder))) dav_nil))) (da_cons (d_callB (CallD.der (cd_isiZ hzx isP_none (.own _))) (by rfl) (by exact fx.b_isinstance) boot_isinstance (dav_cons (vv 0) (dav_cons (.ofE (d_cls (by rfl) (by exact fx.g_NoWeights))) dav_nil))) (da_cons (d_callB (CallD.der (cd_isiZ hzx isP_none (.own _))) (by rfl) (by exact fx.b_isinstance) boot_isinstance (dav_cons (vv 0) (dav_cons (.ofE (d_cls (by rfl) (by exact fx.g_NoNames))) dav_nil))) da_nil))))))
    (dss_cons (ds_set (i := 1) nd rfl (by first | exact Or.inl rfl | exact Or.inr rfl) (d_op (OpD.der od_add) (vv 1) (.ofE (e_n (n_lst (da_cons (d_callB (CallD.der (cd_isiZ hzx isP_none (.own _))) (by rfl) (by exact fx.b_isinstance) boot_isinstance (dav_cons (vv 0) (dav_cons (.ofE (d_cls (by rfl) (by exact fx.g_NotAdmitted))) dav_nil))) (da_cons (d_callB (CallD.der (cd_isiZ hzx isP_none (.own _))) (by rfl) (by exact fx.b_isinstance) boot_isinstance (dav_cons (vv 0) (dav_cons (.ofE (d_cls (by rfl) (by exact fx.g_NoEquations))) dav_nil))) (da_cons (d_callB (CallD.der (cd_isiZ hzx isP_none (.own _))) (by rfl) (by exact fx.b_isinstance) boot_isinstance (dav_cons (vv 0) (dav_cons (.ofE (d_cls (by rfl) (by exact fx.g_NotGround))) dav_nil))) da_nil))))))))
    (dss_cons (ds_set (i := 1) nd rfl (by first | exact Or.inl rfl | exact Or.inr rfl) (d_op (OpD.der od_add) (vv 1) (.ofE (e_n (n_lst (da_cons (d_callB (CallD.der (cd_isiZ hzx isP_none (.own _))) (by rfl) (by exact fx.b_isinstance) boot_isinstance (dav_cons (vv 0) (dav_cons (.ofE (d_cls (by rfl) (by exact fx.g_NotOrdered))) dav_nil))) (da_cons (d_callB (CallD.der (cd_isiZ hzx isP_none (.own _))) (by rfl) (by exact fx.b_isinstance) boot_isinstance (dav_cons (vv 0) (dav_cons (.ofE (d_cls (by rfl) (by exact fx.g_NotSame))) dav_nil))) (da_cons (d_callB (CallD.der (cd_isiZ hzx isP_none (.own _))) (by rfl) (by exact fx.b_isinstance) boot_isinstance (dav_cons (vv 0) (dav_cons (.ofE (d_cls (by rfl) (by exact fx.g_NoStep))) dav_nil))) da_nil))))))))
    (dss_cons (ds_set (i := 1) nd rfl (by first | exact Or.inl rfl | exact Or.inr rfl) (d_op (OpD.der od_add) (vv 1) (.ofE (e_n (n_lst (da_cons (d_callB (CallD.der (cd_isiZ hzx isP_none (.own _))) (by rfl) (by exact fx.b_isinstance) boot_isinstance (dav_cons (vv 0) (dav_cons (.ofE (d_cls (by rfl) (by exact fx.g_Unfinished))) dav_nil))) (da_cons (d_callB (CallD.der (cd_isiZ hzx isP_none (.own _))) (by rfl) (by exact fx.b_isinstance) boot_isinstance (dav_cons (vv 0) (dav_cons (.ofE (d_cls (by rfl) (by exact fx.g_NotLinear))) dav_nil))) (da_cons (d_callB (CallD.der (cd_isiZ hzx isP_none (.own _))) (by rfl) (by exact fx.b_isinstance) boot_isinstance (dav_cons (vv 0) (dav_cons (.ofE (d_cls (by rfl) (by exact fx.g_NoMakers))) dav_nil))) da_nil))))))))
    (dss_cons (ds_set (i := 1) nd rfl (by first | exact Or.inl rfl | exact Or.inr rfl) (d_op (OpD.der od_add) (vv 1) (.ofE (e_n (n_lst (da_cons (d_callB (CallD.der (cd_isiZ hzx isP_none (.own _))) (by rfl) (by exact fx.b_isinstance) boot_isinstance (dav_cons (vv 0) (dav_cons (.ofE (d_cls (by rfl) (by exact fx.g_NoCompleting))) dav_nil))) (da_cons (d_callB (CallD.der (cd_isiZ hzx isP_none (.own _))) (by rfl) (by exact fx.b_isinstance) boot_isinstance (dav_cons (vv 0) (dav_cons (.ofE (d_cls (by rfl) (by exact fx.g_NoModel))) dav_nil))) da_nil)))))))
    (dss_cons (ds_ret (dv 1))
    dss_nil))))))
theorem o__law_sorts (z : Zx) [xc : XCt] {Q : K3} {Y : X3} (xl : ∀ σ : St3, True → XLe Y σ) {E : Ends3} (hn : ∀ σ, NxS Q Y E.nx σ (pure .non)) (hrt : E.rt = Q) (e'0 : D) :
    EvS Q Y (t__law_sorts z K) E [some (S3.dat e'0), none] (m__law_sorts z K e'0) := by
  obtain ⟨nx, rt, bk, ct, ro⟩ := E
  cases hrt
  unfold t__law_sorts m__law_sorts
  refine s_set (xl _ trivial) (ev_eN (ev_lst (ev_cons (ev_cb (ev_cons (ev_vd rfl) (ev_cons ev_c ev_nil))) (ev_cons (ev_cb (ev_cons (ev_vd rfl) (ev_cons ev_c ev_nil))) (ev_cons (ev_cb (ev_cons (ev_vd rfl) (ev_cons ev_c ev_nil))) ev_nil))))) fun found1 => ?_
  refine s_set (xl _ trivial) (ev_op (ev_vd rfl) (ev_eN (ev_lst (ev_cons (ev_cb (ev_cons (ev_vd rfl) (ev_cons ev_c ev_nil))) (ev_cons (ev_cb (ev_cons (ev_vd rfl) (ev_cons ev_c ev_nil))) (ev_cons (ev_cb (ev_cons (ev_vd rfl) (ev_cons ev_c ev_nil))) ev_nil)))))) fun found2 => ?_
  refine s_set (xl _ trivial) (ev_op (ev_vd rfl) (ev_eN (ev_lst (ev_cons (ev_cb (ev_cons (ev_vd rfl) (ev_cons ev_c ev_nil))) (ev_cons (ev_cb (ev_cons (ev_vd rfl) (ev_cons ev_c ev_nil))) (ev_cons (ev_cb (ev_cons (ev_vd rfl) (ev_cons ev_c ev_nil))) ev_nil)))))) fun found3 => ?_
  refine s_set (xl _ trivial) (ev_op (ev_vd rfl) (ev_eN (ev_lst (ev_cons (ev_cb (ev_cons (ev_vd rfl) (ev_cons ev_c ev_nil))) (ev_cons (ev_cb (ev_cons (ev_vd rfl) (ev_cons ev_c ev_nil))) (ev_cons (ev_cb (ev_cons (ev_vd rfl) (ev_cons ev_c ev_nil))) ev_nil)))))) fun found4 => ?_
  refine s_set (xl _ trivial) (ev_op (ev_vd rfl) (ev_eN (ev_lst (ev_cons (ev_cb (ev_cons (ev_vd rfl) (ev_cons ev_c ev_nil))) (ev_cons (ev_cb (ev_cons (ev_vd rfl) (ev_cons ev_c ev_nil))) ev_nil))))) fun found5 => ?_
  exact (s_ret0 (xl _ trivial) (fun _ _ q => q) (ev_var rfl))
theorem q__law_sorts (z : Zx) (ds : List D) (n_ : Mem) (Q : K3) (Y : X3) (h : sp__law_sorts z K ds n_ Q Y) : @t__law_sorts z K ⟨fun e _ n' => Y e n'⟩ { nx := fun _ n' => Q .non n', rt := Q } (start3 N__law_sorts ds) n_ := by
  obtain ⟨e'0, rfl, h⟩ := h
  exact (@o__law_sorts K z ⟨fun e _ n' => Y e n'⟩ Q Y (fun _ _ _ _ q => q) _ (fun _ => ⟨fun _ q => q⟩) rfl e'0).go n_ h
abbrev N__law_others : List Str := ["e", "found"]
theorem sc__law_others : FnScope N__law_others ["e"] (defScope (top 60)) := ⟨rfl, rfl, rfl, by decide +kernel, rfl, by decide +kernel, by decide +kernel⟩
def t__law_others (K : PySem.W.Frag) [xc : XCt] : TS3 := (dSeq (dSet (eN (nLst (dCons (dCB (cDer (rIsi3 (pZ K none (.ref (ga K "NoName")) (fun _ => none)) (.ref (ga K "NoName")))) (dCons (dView 0) (dCons (dC (.raw (.ref (ga K "NoName")))) dNil))) (dCons (dCB (cDer (rIsi3 (pZ K none (.ref (ga K "NoWords")) (fun _ => none)) (.ref (ga K "NoWords")))) (dCons (dView 0) (dCons (dC (.raw (.ref (ga K "NoWords")))) dNil))) (dCons (dCB (cDer (rIsi3 (pZ K none (.ref (ga K "NoSigns")) (fun _ => none)) (.ref (ga K "NoSigns")))) (dCons (dView 0) (dCons (dC (.raw (.ref (ga K "NoSigns")))) dNil))) dNil))))) (gNm 1))
    (dSeq (dSet (dOp (rDer rAdd3) (dView 1) (eN (nLst (dCons (dCB (cDer (rIsi3 (pZ K none (.ref (ga K "NoSign")) (fun _ => none)) (.ref (ga K "NoSign")))) (dCons (dView 0) (dCons (dC (.raw (.ref (ga K "NoSign")))) dNil))) (dCons (dCB (cDer (rIsi3 (pZ K none (.ref (ga K "NoWord")) (fun _ => none)) (.ref (ga K "NoWord")))) (dCons (dView 0) (dCons (dC (.raw (.ref (ga K "NoWord")))) dNil))) (dCons (dCB (cDer (rIsi3 (pZ K none (.ref (ga K "Beyond")) (fun _ => none)) (.ref (ga K "Beyond")))) (dCons (dView 0) (dCons (dC (.raw (.ref (ga K "Beyond")))) dNil))) dNil)))))) (gNm 1))
    (dSeq (dSet (dOp (rDer rAdd3) (dView 1) (eN (nLst (dCons (dCB (cDer (rIsi3 (pZ K none (.ref (ga K "Unended")) (fun _ => none)) (.ref (ga K "Unended")))) (dCons (dView 0) (dCons (dC (.raw (.ref (ga K "Unended")))) dNil))) (dCons (dCB (cDer (rIsi3 (pZ K none (.ref (ga K "NoTerm")) (fun _ => none)) (.ref (ga K "NoTerm")))) (dCons (dView 0) (dCons (dC (.raw (.ref (ga K "NoTerm")))) dNil))) (dCons (dCB (cDer (rIsi3 (pZ K none (.ref (ga K "NoTerms")) (fun _ => none)) (.ref (ga K "NoTerms")))) (dCons (dView 0) (dCons (dC (.raw (.ref (ga K "NoTerms")))) dNil))) dNil)))))) (gNm 1))
    (dSeq (dSet (dOp (rDer rAdd3) (dView 1) (eN (nLst (dCons (dCB (cDer (rIsi3 (pZ K none (.ref (ga K "NoLetter")) (fun _ => none)) (.ref (ga K "NoLetter")))) (dCons (dView 0) (dCons (dC (.raw (.ref (ga K "NoLetter")))) dNil))) (dCons (dCB (cDer (rIsi3 (pZ K none (.ref (ga K "NoPairs")) (fun _ => none)) (.ref (ga K "NoPairs")))) (dCons (dView 0) (dCons (dC (.raw (.ref (ga K "NoPairs")))) dNil))) (dCons (dCB (cDer (rIsi3 (pZ K none (.ref (ga K "NoPutting")) (fun _ => none)) (.ref (ga K "NoPutting")))) (dCons (dView 0) (dCons (dC (.raw (.ref (ga K "NoPutting")))) dNil))) dNil)))))) (gNm 1))
    (dSeq (dSet (dOp (rDer rAdd3) (dView 1) (eN (nLst (dCons (dCB (cDer (rIsi3 (pZ K none (.ref (ga K "NoWay")) (fun _ => none)) (.ref (ga K "NoWay")))) (dCons (dView 0) (dCons (dC (.raw (.ref (ga K "NoWay")))) dNil))) (dCons (dCB (cDer (rIsi3 (pZ K none (.ref (ga K "NoNumber")) (fun _ => none)) (.ref (ga K "NoNumber")))) (dCons (dView 0) (dCons (dC (.raw (.ref (ga K "NoNumber")))) dNil))) (dCons (dCB (cDer (rIsi3 (pZ K none (.ref (ga K "NoTruth")) (fun _ => none)) (.ref (ga K "NoTruth")))) (dCons (dView 0) (dCons (dC (.raw (.ref (ga K "NoTruth")))) dNil))) dNil)))))) (gNm 1))
    (dSeq (dSet (dOp (rDer rAdd3) (dView 1) (eN (nLst (dCons (dCB (cDer (rIsi3 (pZ K none (.ref (ga K "NoNote")) (fun _ => none)) (.ref (ga K "NoNote")))) (dCons (dView 0) (dCons (dC (.raw (.ref (ga K "NoNote")))) dNil))) (dCons (dCB (cDer (rIsi3 (pZ K none (.ref (ga K "NoList")) (fun _ => none)) (.ref (ga K "NoList")))) (dCons (dView 0) (dCons (dC (.raw (.ref (ga K "NoList")))) dNil))) (dCons (dCB (cDer (rIsi3 (pZ K none (.ref (ga K "NoAsk")) (fun _ => none)) (.ref (ga K "NoAsk")))) (dCons (dView 0) (dCons (dC (.raw (.ref (ga K "NoAsk")))) dNil))) dNil)))))) (gNm 1))
    (dSeq (dSet (dOp (rDer rAdd3) (dView 1) (eN (nLst (dCons (dCB (cDer (rIsi3 (pZ K none (.ref (ga K "NoRule")) (fun _ => none)) (.ref (ga K "NoRule")))) (dCons (dView 0) (dCons (dC (.raw (.ref (ga K "NoRule")))) dNil))) (dCons (dCB (cDer (rIsi3 (pZ K none (.ref (ga K "NoRules")) (fun _ => none)) (.ref (ga K "NoRules")))) (dCons (dView 0) (dCons (dC (.raw (.ref (ga K "NoRules")))) dNil))) (dCons (dCB (cDer (rIsi3 (pZ K none (.ref (ga K "NoRow")) (fun _ => none)) (.ref (ga K "NoRow")))) (dCons (dView 0) (dCons (dC (.raw (.ref (ga K "NoRow")))) dNil))) dNil)))))) (gNm 1))
    (dSeq (dSet (dOp (rDer rAdd3) (dView 1) (eN (nLst (dCons (dCB (cDer (rIsi3 (pZ K none (.ref (ga K "NoShelf")) (fun _ => none)) (.ref (ga K "NoShelf")))) (dCons (dView 0) (dCons (dC (.raw (.ref (ga K "NoShelf")))) dNil))) (dCons (dCB (cDer (rIsi3 (pZ K none (.ref (ga K "NoDeed")) (fun _ => none)) (.ref (ga K "NoDeed")))) (dCons (dView 0) (dCons (dC (.raw (.ref (ga K "NoDeed")))) dNil))) (dCons (dCB (cDer (rIsi3 (pZ K none (.ref (ga K "NoText")) (fun _ => none)) (.ref (ga K "NoText")))) (dCons (dView 0) (dCons (dC (.raw (.ref (ga K "NoText")))) dNil))) dNil)))))) (gNm 1))
    (dSeq (dSet (dOp (rDer rAdd3) (dView 1) (eN (nLst (dCons (dCB (cDer (rIsi3 (pZ K none (.ref (ga K "NoLine")) (fun _ => none)) (.ref (ga K "NoLine")))) (dCons (dView 0) (dCons (dC (.raw (.ref (ga K "NoLine")))) dNil))) (dCons (dCB (cDer (rIsi3 (pZ K none (.ref (ga K "Unlike")) (fun _ => none)) (.ref (ga K "Unlike")))) (dCons (dView 0) (dCons (dC (.raw (.ref (ga K "Unlike")))) dNil))) (dCons (dCB (cDer (rIsi3 (pZ K none (.ref (ga K "Twice")) (fun _ => none)) (.ref (ga K "Twice")))) (dCons (dView 0) (dCons (dC (.raw (.ref (ga K "Twice")))) dNil))) dNil)))))) (gNm 1))
    (dSeq (dSet (dOp (rDer rAdd3) (dView 1) (eN (nLst (dCons (dCB (cDer (rIsi3 (pZ K none (.ref (ga K "TooMany")) (fun _ => none)) (.ref (ga K "TooMany")))) (dCons (dView 0) (dCons (dC (.raw (.ref (ga K "TooMany")))) dNil))) (dCons (dCB (cDer (rIsi3 (pZ K none (.ref (ga K "TooGreat")) (fun _ => none)) (.ref (ga K "TooGreat")))) (dCons (dView 0) (dCons (dC (.raw (.ref (ga K "TooGreat")))) dNil))) (dCons (dCB (cDer (rIsi3 (pZ K none (.ref (ga K "NotThere")) (fun _ => none)) (.ref (ga K "NotThere")))) (dCons (dView 0) (dCons (dC (.raw (.ref (ga K "NotThere")))) dNil))) dNil)))))) (gNm 1))
    (dSeq (dSet (dOp (rDer rAdd3) (dView 1) (eN (nLst (dCons (dCB (cDer (rIsi3 (pZ K none (.ref (ga K "NoSpot")) (fun _ => none)) (.ref (ga K "NoSpot")))) (dCons (dView 0) (dCons (dC (.raw (.ref (ga K "NoSpot")))) dNil))) (dCons (dCB (cDer (rIsi3 (pZ K none (.ref (ga K "NoMore")) (fun _ => none)) (.ref (ga K "NoMore")))) (dCons (dView 0) (dCons (dC (.raw (.ref (ga K "NoMore")))) dNil))) (dCons (dCB (cDer (rIsi3 (pZ K none (.ref (ga K "Changed")) (fun _ => none)) (.ref (ga K "Changed")))) (dCons (dView 0) (dCons (dC (.raw (.ref (ga K "Changed")))) dNil))) dNil)))))) (gNm 1))
    (dSeq (dSet (dOp (rDer rAdd3) (dView 1) (eN (nLst (dCons (dCB (cDer (rIsi3 (pZ K none (.ref (ga K "Endless")) (fun _ => none)) (.ref (ga K "Endless")))) (dCons (dView 0) (dCons (dC (.raw (.ref (ga K "Endless")))) dNil))) (dCons (dCB (cDer (rIsi3 (pZ K none (.ref (ga K "Absent")) (fun _ => none)) (.ref (ga K "Absent")))) (dCons (dView 0) (dCons (dC (.raw (.ref (ga K "Absent")))) dNil))) (dCons (dCB (cDer (rIsi3 (pZ K none (.ref (ga K "Ended")) (fun _ => none)) (.ref (ga K "Ended")))) (dCons (dView 0) (dCons (dC (.raw (.ref (ga K "Ended")))) dNil))) dNil)))))) (gNm 1))
    (dSeq (dRet (dVar 1))
    dNext)))))))))))))
theorem b__law_others [xc : XCt] (fx : Fx K mg) {cdv : Value} {A : Around} {outer : List Env} {s : Shared} {H : Hp} {E : XK} (hr : Rm 0 (cxOf (L2N.CX P w) P w K mg base N__law_others "_law_others" (defScope (top 60)) (ga K "_law_others") cdv A outer s H E)) :
    DSs (cxOf (L2N.CX P w) P w K mg base N__law_others "_law_others" (defScope (top 60)) (ga K "_law_others") cdv A outer s H E) (defBody (top 60)) (t__law_others K) := by
  have nd : (N__law_others : List Str).Nodup := sc__law_others.nd
  exact (dss_cons (ds_set (i := 1) nd rfl (by first | exact Or.inl rfl | exact Or.inr rfl) (e_n (n_lst (da_cons (d_callB (CallD.der (cd_isiZ zok_none isP_none (.own _))) (by rfl) (by exact fx.b_isinstance) boot_isinstance (dav_cons (vv 0) (dav_cons (.ofE (d_cls (by rfl) (by exact fx.g_NoName))) dav_nil))) (da_cons (d_callB (CallD.der (cd_isiZ zok_none isP_none (.own _))) (by rfl) (by exact fx.b_isinstance) boot_isinstance (dav_cons (vv 0) (dav_cons (.ofE (d_cls (by rfl) (by exact fx.g_NoWords))) dav_nil))) (da_cons (d_callB (CallD.der (cd_isiZ zok_none isP_none (.own _))) (by rfl) (by exact fx.b_isinstance) boot_isinstance (dav_cons (vv 0) (dav_cons (.ofE (d_cls (by rfl) (by exact fx.g_NoSigns))) dav_nil))) da_nil))))))
    (dss_cons (ds_set (i := 1) nd rfl (by first | exact Or.inl rfl | exact Or.inr rfl) (d_op (OpD.der od_add) (vv 1) (.ofE (e_n (n_lst (da_cons (d_callB (CallD.der (cd_isiZ zok_none isP_none (.own _))) (by rfl) (by exact fx.b_isinstance) boot_isinstance (dav_cons (vv 0) (dav_cons (.ofE (d_cls (by rfl) (by exact fx.g_NoSign))) dav_nil))) (da_cons (d_callB (CallD.der (cd_isiZ zok_none isP_none (.own _))) (by rfl) (by exact fx.b_isinstance) boot_isinstance (dav_cons (vv 0) (dav_cons (.ofE (d_cls (by rfl) (by exact fx.g_NoWord))) dav_nil))) (da_cons (d_callB (CallD.der (cd_isiZ zok_none isP_none (.own _))) (by rfl) (by exact fx.b_isinstance) boot_isinstance (dav_cons (vv 0) (dav_cons (.ofE (d_cls (by rfl) (by exact fx.g_Beyond))) dav_nil))) da_nil))))))))
    (dss_cons (ds_set (i := 1) nd rfl (by first | exact Or.inl rfl | exact Or.inr rfl) (d_op (OpD.der od_add) (vv 1) (.ofE (e_n (n_lst (da_cons (d_callB (CallD.der (cd_isiZ zok_none isP_none (.own _))) (by rfl) (by exact fx.b_isinstance) boot_isinstance (dav_cons (vv 0) (dav_cons (.ofE (d_cls (by rfl) (by exact fx.g_Unended))) dav_nil))) (da_cons (d_callB (CallD.der (cd_isiZ zok_none isP_none (.own _))) (by rfl) (by exact fx.b_isinstance) boot_isinstance (dav_cons (vv 0) (dav_cons (.ofE (d_cls (by rfl) (by exact fx.g_NoTerm))) dav_nil))) (da_cons (d_callB (CallD.der (cd_isiZ zok_none isP_none (.own _))) (by rfl) (by exact fx.b_isinstance) boot_isinstance (dav_cons (vv 0) (dav_cons (.ofE (d_cls (by rfl) (by exact fx.g_NoTerms))) dav_nil))) da_nil))))))))
    (dss_cons (ds_set (i := 1) nd rfl (by first | exact Or.inl rfl | exact Or.inr rfl) (d_op (OpD.der od_add) (vv 1) (.ofE (e_n (n_lst (da_cons (d_callB (CallD.der (cd_isiZ zok_none isP_none (.own _))) (by rfl) (by exact fx.b_isinstance) boot_isinstance (dav_cons (vv 0) (dav_cons (.ofE (d_cls (by rfl) (by exact fx.g_NoLetter))) dav_nil))) (da_cons (d_callB (CallD.der (cd_isiZ zok_none isP_none (.own _))) (by rfl) (by exact fx.b_isinstance) boot_isinstance (dav_cons (vv 0) (dav_cons (.ofE (d_cls (by rfl) (by exact fx.g_NoPairs))) dav_nil))) (da_cons (d_callB (CallD.der (cd_isiZ zok_none isP_none (.own _))) (by rfl) (by exact fx.b_isinstance) boot_isinstance (dav_cons (vv 0) (dav_cons (.ofE (d_cls (by rfl) (by exact fx.g_NoPutting))) dav_nil))) da_nil))))))))
    (dss_cons (ds_set (i := 1) nd rfl (by first | exact Or.inl rfl | exact Or.inr rfl) (d_op (OpD.der od_add) (vv 1) (.ofE (e_n (n_lst (da_cons (d_callB (CallD.der (cd_isiZ zok_none isP_none (.own _))) (by rfl) (by exact fx.b_isinstance) boot_isinstance (dav_cons (vv 0) (dav_cons (.ofE (d_cls (by rfl) (by exact fx.g_NoWay))) dav_nil))) (da_cons (d_callB (CallD.der (cd_isiZ zok_none isP_none (.own _))) (by rfl) (by exact fx.b_isinstance) boot_isinstance (dav_cons (vv 0) (dav_cons (.ofE (d_cls (by rfl) (by exact fx.g_NoNumber))) dav_nil))) (da_cons (d_callB (CallD.der (cd_isiZ zok_none isP_none (.own _))) (by rfl) (by exact fx.b_isinstance) boot_isinstance (dav_cons (vv 0) (dav_cons (.ofE (d_cls (by rfl) (by exact fx.g_NoTruth))) dav_nil))) da_nil))))))))
    (dss_cons (ds_set (i := 1) nd rfl (by first | exact Or.inl rfl | exact Or.inr rfl) (d_op (OpD.der od_add) (vv 1) (.ofE (e_n (n_lst (da_cons (d_callB (CallD.der (cd_isiZ zok_none isP_none (.own _))) (by rfl) (by exact fx.b_isinstance) boot_isinstance (dav_cons (vv 0) (dav_cons (.ofE (d_cls (by rfl) (by exact fx.g_NoNote))) dav_nil))) (da_cons (d_callB (CallD.der (cd_isiZ zok_none isP_none (.own _))) (by rfl) (by exact fx.b_isinstance) boot_isinstance (dav_cons (vv 0) (dav_cons (.ofE (d_cls (by rfl) (by exact fx.g_NoList))) dav_nil))) (da_cons (d_callB (CallD.der (cd_isiZ zok_none isP_none (.own _))) (by rfl) (by exact fx.b_isinstance) boot_isinstance (dav_cons (vv 0) (dav_cons (.ofE (d_cls (by rfl) (by exact fx.g_NoAsk))) dav_nil))) da_nil))))))))
    (dss_cons (ds_set (i := 1) nd rfl (by first | exact Or.inl rfl | exact Or.inr rfl) (d_op (OpD.der od_add) (vv 1) (.ofE (e_n (n_lst (da_cons (d_callB (CallD.der (cd_isiZ zok_none isP_none (.own _))) (by rfl) (by exact fx.b_isinstance) boot_isinstance (dav_cons (vv 0) (dav_cons (.ofE (d_cls (by rfl) (by exact fx.g_NoRule))) dav_nil))) (da_cons (d_callB (CallD.der (cd_isiZ zok_none isP_none (.own _))) (by rfl) (by exact fx.b_isinstance) boot_isinstance (dav_cons (vv 0) (dav_cons (.ofE (d_cls (by rfl) (by exact fx.g_NoRules))) dav_nil))) (da_cons (d_callB (CallD.der (cd_isiZ zok_none isP_none (.own _))) (by rfl) (by exact fx.b_isinstance) boot_isinstance (dav_cons (vv 0) (dav_cons (.ofE (d_cls (by rfl) (by exact fx.g_NoRow))) dav_nil))) da_nil))))))))
    (dss_cons (ds_set (i := 1) nd rfl (by first | exact Or.inl rfl | exact Or.inr rfl) (d_op (OpD.der od_add) (vv 1) (.ofE (e_n (n_lst (da_cons (d_callB (CallD.der (cd_isiZ zok_none isP_none (.own _))) (by rfl) (by exact fx.b_isinstance) boot_isinstance (dav_cons (vv 0) (dav_cons (.ofE (d_cls (by rfl) (by exact fx.g_NoShelf))) dav_nil))) (da_cons (d_callB (CallD.der (cd_isiZ zok_none isP_none (.own _))) (by rfl) (by exact fx.b_isinstance) boot_isinstance (dav_cons (vv 0) (dav_cons (.ofE (d_cls (by rfl) (by exact fx.g_NoDeed))) dav_nil))) (da_cons (d_callB (CallD.der (cd_isiZ zok_none isP_none (.own _))) (by rfl) (by exact fx.b_isinstance) boot_isinstance (dav_cons (vv 0) (dav_cons (.ofE (d_cls (by rfl) (by exact fx.g_NoText))) dav_nil))) da_nil))))))))
    (dss_cons (ds_set (i := 1) nd rfl (by first | exact Or.inl rfl | exact Or.inr rfl) (d_op (OpD.der od_add) (vv 1) (.ofE (e_n (n_lst (da_cons (d_callB (CallD.der (cd_isiZ zok_none isP_none (.own _))) (by rfl) (by exact fx.b_isinstance) boot_isinstance (dav_cons (vv 0) (dav_cons (.ofE (d_cls (by rfl) (by exact fx.g_NoLine))) dav_nil))) (da_cons (d_callB (CallD.der (cd_isiZ zok_none isP_none (.own _))) (by rfl) (by exact fx.b_isinstance) boot_isinstance (dav_cons (vv 0) (dav_cons (.ofE (d_cls (by rfl) (by exact fx.g_Unlike))) dav_nil))) (da_cons (d_callB (CallD.der (cd_isiZ zok_none isP_none (.own _))) (by rfl) (by exact fx.b_isinstance) boot_isinstance (dav_cons (vv 0) (dav_cons (.ofE (d_cls (by rfl) (by exact fx.g_Twice))) dav_nil))) da_nil))))))))
    (dss_cons (ds_set (i := 1) nd rfl (by first | exact Or.inl rfl | exact Or.inr rfl) (d_op (OpD.der od_add) (vv 1) (.ofE (e_n (n_lst (da_cons (d_callB (CallD.der (cd_isiZ zok_none isP_none (.own _))) (by rfl) (by exact fx.b_isinstance) boot_isinstance (dav_cons (vv 0) (dav_cons (.ofE (d_cls (by rfl) (by exact fx.g_TooMany))) dav_nil))) (da_cons (d_callB (CallD.der (cd_isiZ zok_none isP_none (.own _))) (by rfl) (by exact fx.b_isinstance) boot_isinstance (dav_cons (vv 0) (dav_cons (.ofE (d_cls (by rfl) (by exact fx.g_TooGreat))) dav_nil))) (da_cons (d_callB (CallD.der (cd_isiZ zok_none isP_none (.own _))) (by rfl) (by exact fx.b_isinstance) boot_isinstance (dav_cons (vv 0) (dav_cons (.ofE (d_cls (by rfl) (by exact fx.g_NotThere))) dav_nil))) da_nil))))))))
    (dss_cons (ds_set (i := 1) nd rfl (by first | exact Or.inl rfl | exact Or.inr rfl) (d_op (OpD.der od_add) (vv 1) (.ofE (e_n (n_lst (da_cons (d_callB (CallD.der (cd_isiZ zok_none isP_none (.own _))) (by rfl) (by exact fx.b_isinstance) boot_isinstance (dav_cons (vv 0) (dav_cons (.ofE (d_cls (by rfl) (by exact fx.g_NoSpot))) dav_nil))) (da_cons (d_callB (CallD.der (cd_isiZ zok_none isP_none (.own _))) (by rfl) (by exact fx.b_isinstance) boot_isinstance (dav_cons (vv 0) (dav_cons (.ofE (d_cls (by rfl) (by exact fx.g_NoMore))) dav_nil))) (da_cons (d_callB (CallD.der (cd_isiZ zok_none isP_none (.own _))) (by rfl) (by exact fx.b_isinstance) boot_isinstance (dav_cons (vv 0) (dav_cons (.ofE (d_cls (by rfl) (by exact fx.g_Changed))) dav_nil))) da_nil))))))))
    (dss_cons (ds_set (i := 1) nd rfl (by first | exact Or.inl rfl | exact Or.inr rfl) (d_op (OpD.der od_add) (vv 1) (.ofE (e_n (n_lst (da_cons (d_callB (CallD.der (cd_isiZ zok_none isP_none (.own _))) (by rfl) (by exact fx.b_isinstance) boot_isinstance (dav_cons (vv 0) (dav_cons (.ofE (d_cls (by rfl) (by exact fx.g_Endless))) dav_nil))) (da_cons (d_callB (CallD.der (cd_isiZ zok_none isP_none (.own _))) (by rfl) (by exact fx.b_isinstance) boot_isinstance (dav_cons (vv 0) (dav_cons (.ofE (d_cls (by rfl) (by exact fx.g_Absent))) dav_nil))) (da_cons (d_callB (CallD.der (cd_isiZ zok_none isP_none (.own _))) (by rfl) (by exact fx.b_isinstance) boot_isinstance (dav_cons (vv 0) (dav_cons (.ofE (d_cls (by rfl) (by exact fx.g_Ended))) dav_nil))) da_nil))))))))
    (dss_cons (ds_ret (dv 1))
    dss_nil)))))))))))))
theorem o__law_others [xc : XCt] {Q : K3} {Y : X3} (xl : ∀ σ : St3, True → XLe Y σ) {E : Ends3} (hn : ∀ σ, NxS Q Y E.nx σ (pure .non)) (hrt : E.rt = Q) (e'0 : D) :
    EvS Q Y (t__law_others K) E [some (S3.dat e'0), none] (m__law_others K e'0) := by
  obtain ⟨nx, rt, bk, ct, ro⟩ := E
  cases hrt
  unfold t__law_others m__law_others
  refine s_set (xl _ trivial) (ev_eN (ev_lst (ev_cons (ev_cb (ev_cons (ev_vd rfl) (ev_cons ev_c ev_nil))) (ev_cons (ev_cb (ev_cons (ev_vd rfl) (ev_cons ev_c ev_nil))) (ev_cons (ev_cb (ev_cons (ev_vd rfl) (ev_cons ev_c ev_nil))) ev_nil))))) fun found1 => ?_
  refine s_set (xl _ trivial) (ev_op (ev_vd rfl) (ev_eN (ev_lst (ev_cons (ev_cb (ev_cons (ev_vd rfl) (ev_cons ev_c ev_nil))) (ev_cons (ev_cb (ev_cons (ev_vd rfl) (ev_cons ev_c ev_nil))) (ev_cons (ev_cb (ev_cons (ev_vd rfl) (ev_cons ev_c ev_nil))) ev_nil)))))) fun found2 => ?_
  refine s_set (xl _ trivial) (ev_op (ev_vd rfl) (ev_eN (ev_lst (ev_cons (ev_cb (ev_cons (ev_vd rfl) (ev_cons ev_c ev_nil))) (ev_cons (ev_cb (ev_cons (ev_vd rfl) (ev_cons ev_c ev_nil))) (ev_cons (ev_cb (ev_cons (ev_vd rfl) (ev_cons ev_c ev_nil))) ev_nil)))))) fun found3 => ?_
  refine s_set (xl _ trivial) (ev_op (ev_vd rfl) (ev_eN (ev_lst (ev_cons (ev_cb (ev_cons (ev_vd rfl) (ev_cons ev_c ev_nil))) (ev_cons (ev_cb (ev_cons (ev_vd rfl) (ev_cons ev_c ev_nil))) (ev_cons (ev_cb (ev_cons (ev_vd rfl) (ev_cons ev_c ev_nil))) ev_nil)))))) fun found4 => ?_
  refine s_set (xl _ trivial) (ev_op (ev_vd rfl) (ev_eN (ev_lst (ev_cons (ev_cb (ev_cons (ev_vd rfl) (ev_cons ev_c ev_nil))) (ev_cons (ev_cb (ev_cons (ev_vd rfl) (ev_cons ev_c ev_nil))) (ev_cons (ev_cb (ev_cons (ev_vd rfl) (ev_cons ev_c ev_nil))) ev_nil)))))) fun found5 => ?_
  refine s_set (xl _ trivial) (ev_op (ev_vd rfl) (ev_eN (ev_lst (ev_cons (ev_cb (ev_cons (ev_vd rfl) (ev_cons ev_c ev_nil))) (ev_cons (ev_cb (ev_cons (ev_vd rfl) (ev_cons ev_c ev_nil))) (ev_cons (ev_cb (ev_cons (ev_vd rfl) (ev_cons ev_c ev_nil))) ev_nil)))))) fun found6 => ?_
  refine s_set (xl _ trivial) (ev_op (ev_vd rfl) (ev_eN (ev_lst (ev_cons (ev_cb (ev_cons (ev_vd rfl) (ev_cons ev_c ev_nil))) (ev_cons (ev_cb (ev_cons (ev_vd rfl) (ev_cons ev_c ev_nil))) (ev_cons (ev_cb (ev_cons (ev_vd rfl) (ev_cons ev_c ev_nil))) ev_nil)))))) fun found7 => ?_
  refine s_set (xl _ trivial) (ev_op (ev_vd rfl) (ev_eN (ev_lst (ev_cons (ev_cb (ev_cons (ev_vd rfl) (ev_cons ev_c ev_nil))) (ev_cons (ev_cb (ev_cons (ev_vd rfl) (ev_cons ev_c ev_nil))) (ev_cons (ev_cb (ev_cons (ev_vd rfl) (ev_cons ev_c ev_nil))) ev_nil)))))) fun found8 => ?_
  refine s_set (xl _ trivial) (ev_op (ev_vd rfl) (ev_eN (ev_lst (ev_cons (ev_cb (ev_cons (ev_vd rfl) (ev_cons ev_c ev_nil))) (ev_cons (ev_cb (ev_cons (ev_vd rfl) (ev_cons ev_c ev_nil))) (ev_cons (ev_cb (ev_cons (ev_vd rfl) (ev_cons ev_c ev_nil))) ev_nil)))))) fun found9 => ?_
  refine s_set (xl _ trivial) (ev_op (ev_vd rfl) (ev_eN (ev_lst (ev_cons (ev_cb (ev_cons (ev_vd rfl) (ev_cons ev_c ev_nil))) (ev_cons (ev_cb (ev_cons (ev_vd rfl) (ev_cons ev_c ev_nil))) (ev_cons (ev_cb (ev_cons (ev_vd rfl) (ev_cons ev_c ev_nil))) ev_nil)))))) fun found10 => ?_
  refine s_set (xl _ trivial) (ev_op (ev_vd rfl) (ev_eN (ev_lst (ev_cons (ev_cb (ev_cons (ev_vd rfl) (ev_cons ev_c ev_nil))) (ev_cons (ev_cb (ev_cons (ev_vd rfl) (ev_cons ev_c ev_nil))) (ev_cons (ev_cb (ev_cons (ev_vd rfl) (ev_cons ev_c ev_nil))) ev_nil)))))) fun found11 => ?_
  refine s_set (xl _ trivial) (ev_op (ev_vd rfl) (ev_eN (ev_lst (ev_cons (ev_cb (ev_cons (ev_vd rfl) (ev_cons ev_c ev_nil))) (ev_cons (ev_cb (ev_cons (ev_vd rfl) (ev_cons ev_c ev_nil))) (ev_cons (ev_cb (ev_cons (ev_vd rfl) (ev_cons ev_c ev_nil))) ev_nil)))))) fun found12 => ?_
  exact (s_ret0 (xl _ trivial) (fun _ _ q => q) (ev_var rfl))
theorem q__law_others (ds : List D) (n_ : Mem) (Q : K3) (Y : X3) (h : sp__law_others K ds n_ Q Y) : @t__law_others K ⟨fun e _ n' => Y e n'⟩ { nx := fun _ n' => Q .non n', rt := Q } (start3 N__law_others ds) n_ := by
  obtain ⟨e'0, rfl, h⟩ := h
  exact (@o__law_others K ⟨fun e _ n' => Y e n'⟩ Q Y (fun _ _ _ _ q => q) _ (fun _ => ⟨fun _ q => q⟩) rfl e'0).go n_ h
abbrev N__law_field : List Str := ["e", "place"]
theorem sc__law_field : FnScope N__law_field ["e", "place"] (defScope (top 61)) := ⟨rfl, rfl, rfl, by decide +kernel, rfl, by decide +kernel, by decide +kernel⟩
def t__law_field (z : Zx) (K : PySem.W.Frag) [xc : XCt] : TS3 := (dSeq (dRet (dIfE (dTest (dOp (rDer (rInA3 false)) (dView 1) (dTup (dCons (dC (.int 6)) (dCons (dC (.int 7)) (dCons (dC (.int 8)) dNil)))))) (dXfZ z (xc_at K) "at" (dVar 0)) (dXfZ z (xc_found K) "found" (dVar 0))))
    dNext)
theorem b__law_field [xc : XCt] (fx : Fx K mg) {cdv : Value} {A : Around} {outer : List Env} {s : Shared} {H : Hp} {E : XK} (hr : Rm 0 (cxOf (L2N.CX P w) P w K mg base N__law_field "_law_field" (defScope (top 61)) (ga K "_law_field") cdv A outer s H E)) :
    DSs (cxOf (L2N.CX P w) P w K mg base N__law_field "_law_field" (defScope (top 61)) (ga K "_law_field") cdv A outer s H E) (defBody (top 61)) (t__law_field none K) := by
  have nd : (N__law_field : List Str).Nodup := sc__law_field.nd
  have hzx : ZOk (cxOf (L2N.CX P w) P w K mg base N__law_field "_law_field" (defScope (top 61)) (ga K "_law_field") cdv A outer s H E) none := zok_none
  exact (dss_cons (ds_ret (d_ifE (dt_cmp (OpD.der (od_inA hr.u)) (vv 1) (.ofE (d_tup (da_cons d_int (da_cons d_int (da_cons d_int da_nil))))) rfl) (d_xfZ hzx fx.xf_at (dv 0)) (d_xfZ hzx fx.xf_found (dv 0))))
    dss_nil)
theorem bZ__law_field [xc : XCt] (fx : Fx K mg) {pz : Addr × Obj} {C : Addr} {d : Option Addr} (hz : L2N.Zn (.ref C) d pz.2) (hf : ∃ vs, pz.2.data = .fields vs) {cdv : Value} {A : Around} {outer : List Env} {s : Shared} {H : Hp} {E : XK} (hr : RmH 0 (L2H.cxH (L2N.CX P w) P w K mg base N__law_field "_law_field" (defScope (top 61)) (ga K "_law_field") cdv A outer s H E pz)) :
    DSs (L2H.cxH (L2N.CX P w) P w K mg base N__law_field "_law_field" (defScope (top 61)) (ga K "_law_field") cdv A outer s H E pz) (defBody (top 61)) (t__law_field (some (pz.1, C, d)) K) := by
  have nd : (N__law_field : List Str).Nodup := sc__law_field.nd
  have hzx : ZOk (L2H.cxH (L2N.CX P w) P w K mg base N__law_field "_law_field" (defScope (top 61)) (ga K "_law_field") cdv A outer s H E pz) (some (pz.1, C, d)) := zok_def hz hf
  exact (dss_cons (ds_ret (d_ifE (dt_cmp (OpD.der (od_inA hr.u)) (vv 1) (.ofE (d_tup (da_cons d_int (da_cons d_int (da_cons d_int da_nil))))) rfl) (d_xfZ hzx fx.xf_at (dv 0)) (d_xfZ hzx fx.xf_found (dv 0))))
    dss_nil)
theorem o__law_field (z : Zx) [xc : XCt] {Q : K3} {Y : X3} (xl : ∀ σ : St3, True → XLe Y σ) {E : Ends3} (hn : ∀ σ, NxS Q Y E.nx σ (pure .non)) (hrt : E.rt = Q) (e'0 : D) (place0 : D) :
    EvS Q Y (t__law_field z K) E [some (S3.dat e'0), some (S3.dat place0)] (m__law_field z K e'0 place0) := by
  obtain ⟨nx, rt, bk, ct, ro⟩ := E
  cases hrt
  unfold t__law_field m__law_field
  exact (s_ret0 (xl _ trivial) (fun _ _ q => q) (ev_ifE (ev_test (ev_op (ev_vd rfl) (ev_tup (ev_cons ev_c (ev_cons ev_c (ev_cons ev_c ev_nil)))))) (ev_xfZ (ev_var rfl)) (ev_xfZ (ev_var rfl))))
theorem q__law_field (z : Zx) (ds : List D) (n_ : Mem) (Q : K3) (Y : X3) (h : sp__law_field z K ds n_ Q Y) : @t__law_field z K ⟨fun e _ n' => Y e n'⟩ { nx := fun _ n' => Q .non n', rt := Q } (start3 N__law_field ds) n_ := by
  obtain ⟨e'0, place0, rfl, h⟩ := h
  exact (@o__law_field K z ⟨fun e _ n' => Y e n'⟩ Q Y (fun _ _ _ _ q => q) _ (fun _ => ⟨fun _ q => q⟩) rfl e'0 place0).go n_ h
abbrev N__law_thing : List Str := ["box", "some"]
theorem sc__law_thing : FnScope N__law_thing ["box"] (defScope (top 62)) := ⟨rfl, rfl, rfl, by decide +kernel, rfl, by decide +kernel, by decide +kernel⟩
def t__law_thing (K : PySem.W.Frag) [xc : XCt] : TS3 := (dSeq (dSet (eN (nLst (dCons (dC .non) (dCons (dC (.bl true)) (dCons (dC (.bl false)) (dCons (dC (.int 0)) (dCons (dNeg (dC (.int 7))) (dCons (dOp (rDer rPow3) (dC (.int 10)) (dC (.int 29))) (dCons (dC (.str "")) (dCons (dC (.str "f A")) (dCons (dCel (nLst dNil)) (dCons (dCel (nLst (dCons (dC (.str "a")) (dCons (eN (nLst (dCons (dC (.int 1)) dNil))) dNil)))) (dCons (dTup dNil) (dCons (dTup (dCons (dC (.int 1)) (dCons (dC (.bl true)) dNil))) (dCons (dCel nDk0) (dCons (dCel (nDisp1 (dC (.str "a")) (eN (nLst (dCons (dC (.int 3)) dNil))))) (dCons (dCel (nLst (dCons (dC .non) dNil))) (dCons (dMkX (ga K "NoTerm") "found" "no term" (dC (.int 3))) dNil)))))))))))))))))) (gNm 1))
    (dSeq (dRet (dOp (rDer (rIxA3 K)) (dView 1) (dCall (sp__law_take K) [] (dCons (dVar 0) (dCons (dC (.int 16)) dNil)))))
    dNext))
theorem b__law_thing [xc : XCt] (fx : Fx K mg) (p__law_take : Fun3 P w K mg base 1 (ga K "_law_take") ["box", "many"] (sp__law_take K)) (p_mk_NoTerm : Exr3 P w K mg base 1 (ga K "NoTerm") "found" "no term" "found") {cdv : Value} {A : Around} {outer : List Env} {s : Shared} {H : Hp} {E : XK} (hr : Rm 2 (cxOf (L2N.CX P w) P w K mg base N__law_thing "_law_thing" (defScope (top 62)) (ga K "_law_thing") cdv A outer s H E)) :
    DSs (cxOf (L2N.CX P w) P w K mg base N__law_thing "_law_thing" (defScope (top 62)) (ga K "_law_thing") cdv A outer s H E) (defBody (top 62)) (t__law_thing K) := by
  have nd : (N__law_thing : List Str).Nodup := sc__law_thing.nd
  exact (dss_cons (ds_set (i := 1) nd rfl (by first | exact Or.inl rfl | exact Or.inr rfl) (e_n (n_lst (da_cons d_non (da_cons d_bl (da_cons d_bl (da_cons d_int (da_cons (d_neg d_int) (da_cons (d_op (OpD.der od_pow) (.ofE d_int) (.ofE d_int)) (da_cons d_str (da_cons d_str (da_cons (d_cel (n_lst da_nil)) (da_cons (d_cel (n_lst (da_cons d_str (da_cons (e_n (n_lst (da_cons d_int da_nil))) da_nil)))) (da_cons (d_tup da_nil) (da_cons (d_tup (da_cons d_int (da_cons d_bl da_nil))) (da_cons (d_cel n_dk0) (da_cons (d_cel (n_disp1 d_str (e_n (n_lst (da_cons d_int da_nil))))) (da_cons (d_cel (n_lst (da_cons d_non da_nil))) (da_cons (d_mkx p_mk_NoTerm ⟨hr.r, hr.g⟩ (by exact fx.g_NoTerm) d_int) da_nil)))))))))))))))))))
    (dss_cons (ds_ret (d_ixA (Nat.lt_of_le_of_lt (Nat.add_le_add_left (by decide : 1 ≤ 65) _) hr.u) (vv 1) (.ofE (d_callF p__law_take ⟨hr.r, hr.g⟩ (by exact fx.g__law_take) (da_cons (dv 0) (da_cons d_int da_nil))))))
    dss_nil))
theorem o__law_thing [xc : XCt] {Q : K3} {Y : X3} (xl : ∀ σ : St3, True → XLe Y σ) {E : Ends3} (hn : ∀ σ, NxS Q Y E.nx σ (pure .non)) (hrt : E.rt = Q) (box0 : D) :
    EvS Q Y (t__law_thing K) E [some (S3.dat box0), none] (m__law_thing K box0) := by
  obtain ⟨nx, rt, bk, ct, ro⟩ := E
  cases hrt
  unfold t__law_thing m__law_thing
  refine s_set (xl _ trivial) (ev_eN (ev_lst (ev_cons ev_c (ev_cons ev_c (ev_cons ev_c (ev_cons ev_c (ev_cons (ev_neg ev_c) (ev_cons (ev_op ev_c ev_c) (ev_cons ev_c (ev_cons ev_c (ev_cons (ev_cel (ev_lst ev_nil)) (ev_cons (ev_cel (ev_lst (ev_cons ev_c (ev_cons (ev_eN (ev_lst (ev_cons ev_c ev_nil))) ev_nil)))) (ev_cons (ev_tup ev_nil) (ev_cons (ev_tup (ev_cons ev_c (ev_cons ev_c ev_nil))) (ev_cons (ev_cel ev_dk0) (ev_cons (ev_cel (ev_disp1 ev_c (ev_eN (ev_lst (ev_cons ev_c ev_nil))))) (ev_cons (ev_cel (ev_lst (ev_cons ev_c ev_nil))) (ev_cons (ev_mkX ev_c) ev_nil)))))))))))))))))) fun some'1 => ?_
  exact (s_ret0 (xl _ trivial) (fun _ _ q => q) (ev_op (ev_vd rfl) (ev_call (sp := (sp__law_take K)) (dds := []) (f := cl2 (m__law_take K)) (ev_cons (ev_var rfl) (ev_cons ev_c ev_nil)) (fun ds n Q Y h => by obtain ⟨a, b, rfl, h⟩ := cl2_inv h; exact ⟨_, _, rfl, h⟩))))
theorem q__law_thing (ds : List D) (n_ : Mem) (Q : K3) (Y : X3) (h : sp__law_thing K ds n_ Q Y) : @t__law_thing K ⟨fun e _ n' => Y e n'⟩ { nx := fun _ n' => Q .non n', rt := Q } (start3 N__law_thing ds) n_ := by
  obtain ⟨box0, rfl, h⟩ := h
  exact (@o__law_thing K ⟨fun e _ n' => Y e n'⟩ Q Y (fun _ _ _ _ q => q) _ (fun _ => ⟨fun _ q => q⟩) rfl box0).go n_ h
abbrev N__law_caught : List Str := ["way", "one", "places", "e", "k"]
theorem sc__law_caught : FnScope N__law_caught ["way", "one"] (defScope (top 63)) := ⟨rfl, rfl, rfl, by decide +kernel, rfl, by decide +kernel, by decide +kernel⟩
def t__law_caught (K : PySem.W.Frag) [xc : XCt] : TS3 := (dSeq (dSet (eN (nLst (dCons (dC (.int 0)) (dCons (dC (.int 6)) (dCons (dC (.int 8)) (dCons (dC (.int 9)) (dCons (dC (.int 13)) dNil))))))) (gNm 2))
    (dSeq (dTry (fun xc => letI := xc; (dSeq (dIf (dTest (dOp (rDer (rEqA3 false)) (dView 0) (dC (.int 0))))
    (dSeq (dRaise (ga K "NoOrder") "found" (dVar 1))
    dNext)
    dNext)
    (dSeq (dIf (dTest (dOp (rDer (rEqA3 false)) (dView 0) (dC (.int 1))))
    (dSeq (dRaiseK (ga K "NotOrdered") "at" (dCons (dVar 1) dNil))
    dNext)
    dNext)
    (dSeq (dIf (dTest (dOp (rDer (rEqA3 false)) (dView 0) (dC (.int 2))))
    (dSeq (dRaise (ga K "NoStep") "at" (dVar 1))
    dNext)
    dNext)
    (dSeq (dIf (dTest (dOp (rDer (rEqA3 false)) (dView 0) (dC (.int 3))))
    (dSeq (dRaiseK (ga K "Unfinished") "found" (dCons (dVar 1) dNil))
    dNext)
    dNext)
    (dSeq (dRaise (ga K "NoModel") "found" (dVar 1))
    dNext))))))
    [((mtL (xl_TermError K)), some 3, fun a C d => letI := XCt.dead; (dSeq (dRet (dAndV (dOp (rDer (rEqA3 false)) (dCall (sp__law_sorts (some (a, C, d)) K) [] (dCons (dVar 3) dNil)) (eN (nLc (iRange1 (dC (.int 14))) (gNm 4) (letI := XCt.dead; dYes) (letI := XCt.dead; (dOp (rDer (rEqA3 false)) (dView 4) (dOp (rDer (rIxA3 K)) (dView 2) (dView 0)))) [4]))) (dOp (rDer (rEqA3 false)) (dCB (cDer (rReprX3 K)) (dCons (dCall (sp__law_field (some (a, C, d)) K) [] (dCons (dVar 3) (dCons (dOp (rDer (rIxA3 K)) (dView 2) (dView 0)) dNil))) dNil)) (dCB (cDer (rReprX3 K)) (dCons (dView 1) dNil)))))
    dNext))])
    dNext))
theorem b__law_caught [xc : XCt] (fx : Fx K mg) (pZ__law_field : Fun3Z P w K mg base 1 (ga K "_law_field") ["e", "place"] (fun z => sp__law_field z K)) (pZ__law_sorts : Fun3Z P w K mg base 1 (ga K "_law_sorts") ["e"] (fun z => sp__law_sorts z K)) (p_NoModel : Exc3 P w K mg base 1 (ga K "NoModel") "found") (p_NoOrder : Exc3 P w K mg base 1 (ga K "NoOrder") "found") (p_NoStep : Exc3 P w K mg base 1 (ga K "NoStep") "at") (p_ek_NotOrdered : Exk3 P w K mg base 1 (ga K "NotOrdered") "at" "at") (p_ek_Unfinished : Exk3 P w K mg base 1 (ga K "Unfinished") "found" "found") {cdv : Value} {A : Around} {outer : List Env} {s : Shared} {H : Hp} {E : XK} (hr : Rm 2 (cxOf (L2N.CX P w) P w K mg base N__law_caught "_law_caught" (defScope (top 63)) (ga K "_law_caught") cdv A outer s H E)) :
    DSs (cxOf (L2N.CX P w) P w K mg base N__law_caught "_law_caught" (defScope (top 63)) (ga K "_law_caught") cdv A outer s H E) (defBody (top 63)) (t__law_caught K) := by
  have nd : (N__law_caught : List Str).Nodup := sc__law_caught.nd
  exact (dss_cons (ds_set (i := 2) nd rfl (by first | exact Or.inl rfl | exact Or.inr rfl) (e_n (n_lst (da_cons d_int (da_cons d_int (da_cons d_int (da_cons d_int (da_cons d_int da_nil))))))))
    (dss_cons (ds_try rfl rfl nd (fun xc pn xe po => 
    (dss_cons (ds_if (dt_cmp (OpD.der (od_eqA (Nat.lt_of_succ_lt hr.u))) (vv 0) (.ofE d_int) rfl)
    (dss_cons (ds_raise p_NoOrder ⟨hr.r, hr.g⟩ rfl (by exact fx.g_NoOrder) (dv 1))
    dss_nil)
    dss_nil)
    (dss_cons (ds_if (dt_cmp (OpD.der (od_eqA (Nat.lt_of_succ_lt hr.u))) (vv 0) (.ofE d_int) rfl)
    (dss_cons (ds_raiseK p_ek_NotOrdered ⟨hr.r, hr.g⟩ rfl (by exact fx.g_NotOrdered) (dk_cons (dv 1) dk_nil))
    dss_nil)
    dss_nil)
    (dss_cons (ds_if (dt_cmp (OpD.der (od_eqA (Nat.lt_of_succ_lt hr.u))) (vv 0) (.ofE d_int) rfl)
    (dss_cons (ds_raise p_NoStep ⟨hr.r, hr.g⟩ rfl (by exact fx.g_NoStep) (dv 1))
    dss_nil)
    dss_nil)
    (dss_cons (ds_if (dt_cmp (OpD.der (od_eqA (Nat.lt_of_succ_lt hr.u))) (vv 0) (.ofE d_int) rfl)
    (dss_cons (ds_raiseK p_ek_Unfinished ⟨hr.r, hr.g⟩ rfl (by exact fx.g_Unfinished) (dk_cons (dv 1) dk_nil))
    dss_nil)
    dss_nil)
    (dss_cons (ds_raise p_NoModel ⟨hr.r, hr.g⟩ rfl (by exact fx.g_NoModel) (dv 1))
    dss_nil)))))) (.consAs (tst_1 (show Names _ "TermError" (.ref (ga K "TermError")) from ⟨by rfl, by decide, .inl (by exact fx.g_TermError)⟩)) (mtL_ok fx.xm_TermError) rfl rfl (fun a oe C d pn hz hf => letI := XCt.dead;
    (dss_cons (ds_ret (d_and (d_cmp (OpD.der (od_eqA (Nat.lt_of_succ_lt hr.u))) (.ofE (d_callZ pZ__law_sorts (rmH_suite ⟨hr.r, hr.g⟩ hz hf) hz hf (by exact fx.g__law_sorts) (da_cons (dv 3) da_nil))) (.ofE (e_n (n_lcH (own := [("k", 4)]) (rmH_suite ⟨hr.r, hr.g⟩ hz hf).c nd (di_range1H (by rfl) (by exact fx.b_range) d_int) (show BlkOk N__law_caught (defScope (top 63)) _ [("k", 4)] from ⟨rfl, by decide +kernel, by decide +kernel, by decide +kernel, by decide +kernel⟩) (fun _ _ _ _ _ => letI := XCt.dead; (dg_name nd rfl (by first | exact Or.inl rfl | exact Or.inr rfl))) (fun _ _ _ _ _ => letI := XCt.dead; dts_nil) (fun _ _ _ _ _ => letI := XCt.dead; (d_cmp (OpD.der (od_eqA (Nat.lt_of_succ_lt hr.u))) (vv 4) (.ofE (d_ixA (Nat.lt_of_le_of_lt (Nat.add_le_add_left (by decide : 1 ≤ 65) _) hr.u) (vv 2) (vv 0))) rfl))))) rfl) (d_one (d_cmp (OpD.der (od_eqA (Nat.lt_of_succ_lt hr.u))) (.ofE (d_callB (CallD.der (cd_reprX hr.g hr.u)) (by rfl) (by exact fx.b_repr) boot_repr (dav_cons (.ofE (d_callZ pZ__law_field (rmH_suite ⟨hr.r, hr.g⟩ hz hf) hz hf (by exact fx.g__law_field) (da_cons (dv 3) (da_cons (d_ixA (Nat.lt_of_le_of_lt (Nat.add_le_add_left (by decide : 1 ≤ 65) _) hr.u) (vv 2) (vv 0)) da_nil)))) dav_nil))) (.ofE (d_callB (CallD.der (cd_reprX hr.g hr.u)) (by rfl) (by exact fx.b_repr) boot_repr (dav_cons (vv 1) dav_nil))) rfl))))
    dss_nil)) .nil))
    dss_nil))
theorem o__law_caught [xc : XCt] {Q : K3} {Y : X3} (xl : ∀ σ : St3, True → XLe Y σ) {E : Ends3} (hn : ∀ σ, NxS Q Y E.nx σ (pure .non)) (hrt : E.rt = Q) (way0 : D) (one0 : D) :
    EvS Q Y (t__law_caught K) E [some (S3.dat way0), some (S3.dat one0), none, none, none] (m__law_caught K way0 one0) := by
  obtain ⟨nx, rt, bk, ct, ro⟩ := E
  cases hrt
  unfold t__law_caught m__law_caught
  refine s_set (xl _ trivial) (ev_eN (ev_lst (ev_cons ev_c (ev_cons ev_c (ev_cons ev_c (ev_cons ev_c (ev_cons ev_c ev_nil))))))) fun places1 => ?_
  refine s_jn (S := Unit) (fun (s2 : Unit) (σ' : St3) => False) (fun s2 σ' hs => hs.elim) fun j3 hj4 => ?_
  refine s_try (fun σ' : St3 => σ' = [some (S3.dat way0), some (S3.dat one0), some (S3.dat places1), none, none]) ?_ fun xc2 xl5 => ?_
  · refine h_cons (fun a C d x σ' hs => ?_) ?_
    · subst hs
      letI := XCt.dead
      have xlD : ∀ σ' : St3, True → XLe (fun _ _ => False) σ' := fun _ _ _ _ z => z
      exact (s_ret (f := Ctl.rt) (xlD _ trivial) (fun _ _ q => q) (ev_andV (ev_op (ev_call (sp := (sp__law_sorts (some (a, C, d)) K)) (dds := []) (f := cl1 (m__law_sorts (some (a, C, d)) K)) (ev_cons (ev_var rfl) ev_nil) (fun ds n Q Y h => by obtain ⟨a, rfl, h⟩ := cl1_inv h; exact ⟨_, rfl, h⟩)) (ev_eN (ev_lc (ei_range ev_c) (fun k'6 m Q2 h => letI := XCt.dead; (lcb_ok ev_yes (ev_op (ev_vd rfl) (ev_op (ev_vd rfl) (ev_vd rfl))) h))))) (ev_op (ev_cb (ev_cons (ev_call (sp := (sp__law_field (some (a, C, d)) K)) (dds := []) (f := cl2 (m__law_field (some (a, C, d)) K)) (ev_cons (ev_var rfl) (ev_cons (ev_op (ev_vd rfl) (ev_vd rfl)) ev_nil)) (fun ds n Q Y h => by obtain ⟨a, b, rfl, h⟩ := cl2_inv h; exact ⟨_, _, rfl, h⟩)) ev_nil)) (ev_cb (ev_cons (ev_vd rfl) ev_nil)))))
    refine h_nil fun σ' hs => ?_
    subst hs
    exact (xl _ trivial)
  · letI := xc2
    refine s_if (xl5 _ rfl) (ev_test (ev_op (ev_vd rfl) ev_c)) ?_ ?_
    · exact (s_raise (xl5 _ rfl) (ev_var rfl))
    · refine s_next (nx_of ?_)
      refine s_if (xl5 _ rfl) (ev_test (ev_op (ev_vd rfl) ev_c)) ?_ ?_
      · exact (s_raiseK (xl5 _ rfl) (ev_cons (ev_var rfl) ev_nil))
      · refine s_next (nx_of ?_)
        refine s_if (xl5 _ rfl) (ev_test (ev_op (ev_vd rfl) ev_c)) ?_ ?_
        · exact (s_raise (xl5 _ rfl) (ev_var rfl))
        · refine s_next (nx_of ?_)
          refine s_if (xl5 _ rfl) (ev_test (ev_op (ev_vd rfl) ev_c)) ?_ ?_
          · exact (s_raiseK (xl5 _ rfl) (ev_cons (ev_var rfl) ev_nil))
          · refine s_next (nx_of ?_)
            exact (s_raise (xl5 _ rfl) (ev_var rfl))
theorem q__law_caught (ds : List D) (n_ : Mem) (Q : K3) (Y : X3) (h : sp__law_caught K ds n_ Q Y) : @t__law_caught K ⟨fun e _ n' => Y e n'⟩ { nx := fun _ n' => Q .non n', rt := Q } (start3 N__law_caught ds) n_ := by
  obtain ⟨way0, one0, rfl, h⟩ := h
  exact (@o__law_caught K ⟨fun e _ n' => Y e n'⟩ Q Y (fun _ _ _ _ q => q) _ (fun _ => ⟨fun _ q => q⟩) rfl way0 one0).go n_ h
abbrev N__law_right : List Str := ["one", "other", "first", "second", "place", "e", "thing", "k", "last"]
theorem sc__law_right : FnScope N__law_right ["one", "other"] (defScope (top 64)) := ⟨rfl, rfl, rfl, by decide +kernel, rfl, by decide +kernel, by decide +kernel⟩
def t__law_right (K : PySem.W.Frag) [xc : XCt] : TS3 := (dSeq (dSet2 (vD (dCall (sp__law_by_place K) [] (dCons (dVar 0) dNil))) (vD (dCall (sp__law_by_name K) [] (dCons (dVar 1) dNil))) 2 3)
    (dSeq (dFor (iRange1 (dC (.int 14))) (gNm 4)
    (dSeq (dFor (iSeq (eN (nLst (dCons (dTup (dCons (dOp (rDer (rIxA3 K)) (dView 2) (dView 4)) (dCons (dVar 0) dNil))) (dCons (dTup (dCons (dOp (rDer (rIxA3 K)) (dView 3) (dView 4)) (dCons (dVar 1) dNil))) dNil))))) (gTp 2 (gsCons (gNm 5) (gsCons (gNm 6) gsNil)))
    (dSeq (dIf (dOr (dTest (dOp (rDer (rEqA3 true)) (dCall (sp__law_sorts none K) [] (dCons (dVar 5) dNil)) (eN (nLc (iRange1 (dC (.int 14))) (gNm 7) (letI := XCt.dead; dYes) (letI := XCt.dead; (dOp (rDer (rEqA3 false)) (dView 7) (dView 4))) [7])))) (dTest (dOp (rDer (rInA3 false)) (dC (.bl true)) (dCall (sp__law_others K) [] (dCons (dVar 5) dNil)))))
    (dSeq (dRet (dC (.bl false)))
    dNext)
    dNext)
    (dSeq (dIf (dOr (dNot (dTest (dCB (cDer (rIsi3 (pZ K none (.ref (ga K "TermError")) (fun _ => none)) (.ref (ga K "TermError")))) (dCons (dView 5) (dCons (dC (.raw (.ref (ga K "TermError")))) dNil))))) (dNot (dTest (dCB (cDer (rIsi3 (pZ K none (.type "ValueError") (fun _ => none)) (.ty "ValueError"))) (dCons (dView 5) (dCons (dC (.raw (.ty "ValueError"))) dNil))))))
    (dSeq (dRet (dC (.bl false)))
    dNext)
    dNext)
    (dSeq (dIf (dTest (dOp (rDer (rEqA3 true)) (dCB (cDer (rReprX3 K)) (dCons (dCall (sp__law_field none K) [] (dCons (dVar 5) (dCons (dVar 4) dNil))) dNil)) (dCB (cDer (rReprX3 K)) (dCons (dView 6) dNil))))
    (dSeq (dRet (dC (.bl false)))
    dNext)
    dNext)
    dNext))))
    dNext))
    (dSeq (dSet (eN (nLc (iEnumD (dVar 2)) (gTp 2 (gsCons (gNm 4) (gsCons (gNm 5) gsNil))) (letI := XCt.dead; dYes) (letI := XCt.dead; (dCall (sp__law_very K) [] (dCons (dCall (sp__law_field none K) [] (dCons (dVar 5) (dCons (dVar 4) dNil))) (dCons (dVar 0) dNil)))) [4, 5])) (gNm 8))
    (dSeq (dRet (dOp (rDer (rInA3 true)) (dC (.bl false)) (dView 8)))
    dNext))))
theorem b__law_right [xc : XCt] (fx : Fx K mg) (p__law_by_name : Fun3 P w K mg base 3 (ga K "_law_by_name") ["one"] (sp__law_by_name K)) (p__law_by_place : Fun3 P w K mg base 3 (ga K "_law_by_place") ["one"] (sp__law_by_place K)) (p__law_field : Fun3 P w K mg base 1 (ga K "_law_field") ["e", "place"] (sp__law_field none K)) (p__law_others : Fun3 P w K mg base 1 (ga K "_law_others") ["e"] (sp__law_others K)) (p__law_sorts : Fun3 P w K mg base 1 (ga K "_law_sorts") ["e"] (sp__law_sorts none K)) (p__law_very : Fun3 P w K mg base 1 (ga K "_law_very") ["given", "thing"] (sp__law_very K)) {cdv : Value} {A : Around} {outer : List Env} {s : Shared} {H : Hp} {E : XK} (hr : Rm 3 (cxOf (L2N.CX P w) P w K mg base N__law_right "_law_right" (defScope (top 64)) (ga K "_law_right") cdv A outer s H E)) :
    DSs (cxOf (L2N.CX P w) P w K mg base N__law_right "_law_right" (defScope (top 64)) (ga K "_law_right") cdv A outer s H E) (defBody (top 64)) (t__law_right K) := by
  have nd : (N__law_right : List Str).Nodup := sc__law_right.nd
  exact (dss_cons (ds_set2 (i := 2) (j := 3) (by decide) (ps_par (i := 2) (j := 3) (by rfl) nd rfl rfl (by decide) rfl rfl (pa_cons (dv_d (d_callF p__law_by_place ⟨hr.r, hr.g⟩ (by exact fx.g__law_by_place) (da_cons (dv 0) da_nil))).pe (pa_cons (dv_d (d_callF p__law_by_name ⟨hr.r, hr.g⟩ (by exact fx.g__law_by_name) (da_cons (dv 1) da_nil))).pe pa_nil)) (by rfl)))
    (dss_cons (ds_for (passes_of rfl) rfl (di_range1 (by rfl) (by exact fx.b_range) d_int) (dg_name nd rfl (by first | exact Or.inl rfl | exact Or.inr rfl))
    (dss_cons (ds_for (passes_of rfl) rfl (di_list (e_n (n_lst (da_cons (d_tup (da_cons (d_ixA (Nat.lt_of_le_of_lt (Nat.add_le_add_left (by decide : 1 ≤ 65) _) hr.u) (vv 2) (vv 4)) (da_cons (dv 0) da_nil))) (da_cons (d_tup (da_cons (d_ixA (Nat.lt_of_le_of_lt (Nat.add_le_add_left (by decide : 1 ≤ 65) _) hr.u) (vv 3) (vv 4)) (da_cons (dv 1) da_nil))) da_nil))))) (dg_tup rfl (dgs_cons (dg_name nd rfl (by first | exact Or.inl rfl | exact Or.inr rfl)) (dgs_cons (dg_name nd rfl (by first | exact Or.inl rfl | exact Or.inr rfl)) dgs_nil)))
    (dss_cons (ds_if (dt_w (dw_or (dt_cmp (OpD.der (od_neA (Nat.lt_of_succ_lt hr.u))) (.ofE (d_callF p__law_sorts ⟨hr.r, hr.g⟩ (by exact fx.g__law_sorts) (da_cons (dv 5) da_nil))) (.ofE (e_n (n_lc (own := [("k", 7)]) rfl nd (di_range1 (by rfl) (by exact fx.b_range) d_int) (show BlkOk N__law_right (defScope (top 64)) _ [("k", 7)] from ⟨rfl, by decide +kernel, by decide +kernel, by decide +kernel, by decide +kernel⟩) (fun _ _ _ _ _ => letI := XCt.dead; (dg_name nd rfl (by first | exact Or.inl rfl | exact Or.inr rfl))) (fun _ _ _ _ _ => letI := XCt.dead; dts_nil) (fun _ _ _ _ _ => letI := XCt.dead; (d_cmp (OpD.der (od_eqA (Nat.lt_of_succ_lt hr.u))) (vv 7) (vv 4) rfl))))) rfl) (dw_or1 (dt_cmp (OpD.der (od_inA hr.u)) (.ofE d_bl) (.ofE (d_callF p__law_others ⟨hr.r, hr.g⟩ (by exact fx.g__law_others) (da_cons (dv 5) da_nil))) rfl))))
    (dss_cons (ds_ret d_bl)
    dss_nil)
    dss_nil)
    (dss_cons (ds_if (dt_w (dw_or (dt_not (dt_val (d_callB (CallD.der (cd_isiZ zok_none isP_none (.own _))) (by rfl) (by exact fx.b_isinstance) boot_isinstance (dav_cons (vv 5) (dav_cons (.ofE (d_cls (by rfl) (by exact fx.g_TermError))) dav_nil))))) (dw_or1 (dt_not (dt_val (d_callB (CallD.der (cd_isiZ zok_none isP_none (.ty "ValueError"))) (by rfl) (by exact fx.b_isinstance) boot_isinstance (dav_cons (vv 5) (dav_cons (.ofE (d_bty (by rfl) (by exact fx.b_ValueError) PyProof.Rows.Boot.«ValueError»)) dav_nil))))))))
    (dss_cons (ds_ret d_bl)
    dss_nil)
    dss_nil)
    (dss_cons (ds_if (dt_cmp (OpD.der (od_neA (Nat.lt_of_succ_lt hr.u))) (.ofE (d_callB (CallD.der (cd_reprX hr.g hr.u)) (by rfl) (by exact fx.b_repr) boot_repr (dav_cons (.ofE (d_callF p__law_field ⟨hr.r, hr.g⟩ (by exact fx.g__law_field) (da_cons (dv 5) (da_cons (dv 4) da_nil)))) dav_nil))) (.ofE (d_callB (CallD.der (cd_reprX hr.g hr.u)) (by rfl) (by exact fx.b_repr) boot_repr (dav_cons (vv 6) dav_nil))) rfl)
    (dss_cons (ds_ret d_bl)
    dss_nil)
    dss_nil)
    dss_nil))))
    dss_nil))
    (dss_cons (ds_setLcP (own := [("place", 4), ("e", 5)]) (i := 8) nd rfl rfl rfl (sw_true rfl rfl rfl rfl) (di_enum (by rfl) (by exact fx.b_enumerate) (dv 2)) (show BlkOk N__law_right (defScope (top 64)) _ [("place", 4), ("e", 5)] from ⟨rfl, by decide +kernel, by decide +kernel, by decide +kernel, by decide +kernel⟩) (fun _ _ _ _ _ => letI := XCt.dead; (dg_tup rfl (dgs_cons (dg_name nd rfl (by first | exact Or.inl rfl | exact Or.inr rfl)) (dgs_cons (dg_name nd rfl (by first | exact Or.inl rfl | exact Or.inr rfl)) dgs_nil)))) (fun _ _ _ _ _ => letI := XCt.dead; dts_nil) (fun _ _ _ _ _ => letI := XCt.dead; (d_callF p__law_very ⟨hr.r, hr.g⟩ (by exact fx.g__law_very) (da_cons (d_callF p__law_field ⟨hr.r, hr.g⟩ (by exact fx.g__law_field) (da_cons (dv 5) (da_cons (dv 4) da_nil))) (da_cons (dv 0) da_nil)))))
    (dss_cons (ds_ret (d_cmp (OpD.der (od_notinA hr.u)) (.ofE d_bl) (vv 8) rfl))
    dss_nil))))
theorem o__law_right [xc : XCt] {Q : K3} {Y : X3} (xl : ∀ σ : St3, True → XLe Y σ) {E : Ends3} (hn : ∀ σ, NxS Q Y E.nx σ (pure .non)) (hrt : E.rt = Q) (one0 : D) (other0 : D) :
    EvS Q Y (t__law_right K) E [some (S3.dat one0), some (S3.dat other0), none, none, none, none, none, none, none] (m__law_right K one0 other0) := by
  obtain ⟨nx, rt, bk, ct, ro⟩ := E
  cases hrt
  unfold t__law_right m__law_right
  refine s_set2DD (xl _ trivial) (ev_call (sp := (sp__law_by_place K)) (dds := []) (f := cl1 (m__law_by_place K)) (ev_cons (ev_var rfl) ev_nil) (fun ds n Q Y h => by obtain ⟨a, rfl, h⟩ := cl1_inv h; exact ⟨_, rfl, h⟩)) (ev_call (sp := (sp__law_by_name K)) (dds := []) (f := cl1 (m__law_by_name K)) (ev_cons (ev_var rfl) ev_nil) (fun ds n Q Y h => by obtain ⟨a, rfl, h⟩ := cl1_inv h; exact ⟨_, rfl, h⟩)) fun first1 second2 => ?_
  refine s_jn (fun (s7 : Unit) (σ' : St3) => ∃ w8 w9 w10 : Option S3, σ' = [some (S3.dat one0), some (S3.dat other0), some (S3.dat first1), some (S3.dat second2), w8, w9, w10, none, none]) (fun s44 σ' hs => ?_) fun j14 hj15 => ?_
  · obtain ⟨w41, w42, w43, rfl⟩ := hs
    refine s_set (xl _ trivial) (ev_eN (ev_lc (ei_enum (ev_var rfl)) (fun d45 m Q2 h => letI := XCt.dead; (let ⟨place46, e'47, e48, q49⟩ := h; ⟨[place46, e'47], e48, rfl, ⟨place46, _, rfl, ⟨e'47, _, rfl, ⟨rfl, (lcb_ok ev_yes (ev_call (sp := (sp__law_very K)) (dds := []) (f := cl2 (m__law_very K)) (ev_cons (ev_call (sp := (sp__law_field none K)) (dds := []) (f := cl2 (m__law_field none K)) (ev_cons (ev_var rfl) (ev_cons (ev_var rfl) ev_nil)) (fun ds n Q Y h => by obtain ⟨a, b, rfl, h⟩ := cl2_inv h; exact ⟨_, _, rfl, h⟩)) (ev_cons (ev_var rfl) ev_nil)) (fun ds n Q Y h => by obtain ⟨a, b, rfl, h⟩ := cl2_inv h; exact ⟨_, _, rfl, h⟩)) q49)⟩⟩⟩⟩)))) fun last50 => ?_
    exact (s_ret0 (xl _ trivial) (fun _ _ q => q) (ev_op ev_c (ev_vd rfl)))
  refine s_for (fun (s7 : Unit) (σ' : St3) => ∃ w8 w9 w10 : Option S3, σ' = [some (S3.dat one0), some (S3.dat other0), some (S3.dat first1), some (S3.dat second2), w8, w9, w10, none, none]) (xl _ trivial) (ei_range ev_c) ?_ hj15 fun place18 s7 σ' n16 N hs hn17 => ?_
  · exact ⟨_, _, _, rfl⟩
  obtain ⟨w8, w9, w10, rfl⟩ := hs
  refine s_jn (fun (s19 : Unit) (σ' : St3) => ∃ w20 w21 : Option S3, σ' = [some (S3.dat one0), some (S3.dat other0), some (S3.dat first1), some (S3.dat second2), some (S3.dat place18), w20, w21, none, none]) (fun s40 σ' hs => ?_) fun j28 hj29 => ?_
  · obtain ⟨w38, w39, rfl⟩ := hs
    exact s_next (hn17 _ _ ⟨_, _, _, rfl⟩)
  refine s_forG (fun (s19 : Unit) (σ' : St3) => ∃ w20 w21 : Option S3, σ' = [some (S3.dat one0), some (S3.dat other0), some (S3.dat first1), some (S3.dat second2), some (S3.dat place18), w20, w21, none, none]) (xl _ trivial) (ei_seq (ev_eN (ev_lst (ev_cons (ev_tup (ev_cons (ev_op (ev_vd rfl) (ev_vd rfl)) (ev_cons (ev_var rfl) ev_nil))) (ev_cons (ev_tup (ev_cons (ev_op (ev_vd rfl) (ev_vd rfl)) (ev_cons (ev_var rfl) ev_nil))) ev_nil))))) ?_ hj29 fun d32 s19 σ' n30 N hs hn31 m h => ?_
  · exact ⟨_, _, rfl⟩
  obtain ⟨w20, w21, rfl⟩ := hs
  obtain ⟨e'33, thing34, e36, q37⟩ := h
  refine ⟨[e'33, thing34], e36, rfl, ⟨e'33, _, rfl, ⟨thing34, _, rfl, ⟨rfl, (ex_at ?_ q37)⟩⟩⟩⟩
  refine s_if (xl _ trivial) (ev_or (ev_test (ev_op (ev_call (sp := (sp__law_sorts none K)) (dds := []) (f := cl1 (m__law_sorts none K)) (ev_cons (ev_var rfl) ev_nil) (fun ds n Q Y h => by obtain ⟨a, rfl, h⟩ := cl1_inv h; exact ⟨_, rfl, h⟩)) (ev_eN (ev_lc (ei_range ev_c) (fun k'35 m Q2 h => letI := XCt.dead; (lcb_ok ev_yes (ev_op (ev_vd rfl) (ev_vd rfl)) h)))))) (ev_test (ev_op ev_c (ev_call (sp := (sp__law_others K)) (dds := []) (f := cl1 (m__law_others K)) (ev_cons (ev_var rfl) ev_nil) (fun ds n Q Y h => by obtain ⟨a, rfl, h⟩ := cl1_inv h; exact ⟨_, rfl, h⟩))))) ?_ ?_
  · exact (s_ret0 (xl _ trivial) (fun _ _ q => q) ev_c)
  · refine s_next (nx_of ?_)
    refine s_if (xl _ trivial) (ev_or (ev_not (ev_test (ev_cb (ev_cons (ev_vd rfl) (ev_cons ev_c ev_nil))))) (ev_not (ev_test (ev_cb (ev_cons (ev_vd rfl) (ev_cons ev_c ev_nil)))))) ?_ ?_
    · exact (s_ret0 (xl _ trivial) (fun _ _ q => q) ev_c)
    · refine s_next (nx_of ?_)
      refine s_if (xl _ trivial) (ev_test (ev_op (ev_cb (ev_cons (ev_call (sp := (sp__law_field none K)) (dds := []) (f := cl2 (m__law_field none K)) (ev_cons (ev_var rfl) (ev_cons (ev_var rfl) ev_nil)) (fun ds n Q Y h => by obtain ⟨a, b, rfl, h⟩ := cl2_inv h; exact ⟨_, _, rfl, h⟩)) ev_nil)) (ev_cb (ev_cons (ev_vd rfl) ev_nil)))) ?_ ?_
      · exact (s_ret0 (xl _ trivial) (fun _ _ q => q) ev_c)
      · exact s_next (hn31 _ _ ⟨_, _, rfl⟩)
theorem q__law_right (ds : List D) (n_ : Mem) (Q : K3) (Y : X3) (h : sp__law_right K ds n_ Q Y) : @t__law_right K ⟨fun e _ n' => Y e n'⟩ { nx := fun _ n' => Q .non n', rt := Q } (start3 N__law_right ds) n_ := by
  obtain ⟨one0, other0, rfl, h⟩ := h
  exact (@o__law_right K ⟨fun e _ n' => Y e n'⟩ Q Y (fun _ _ _ _ q => q) _ (fun _ => ⟨fun _ q => q⟩) rfl one0 other0).go n_ h
abbrev N_law : List Str := ["script", "k", "box", "turn", "e"]
theorem sc_law : FnScope N_law ["script"] (defScope (top 65)) := ⟨rfl, rfl, rfl, by decide +kernel, rfl, by decide +kernel, by decide +kernel⟩
def t_law (K : PySem.W.Frag) [xc : XCt] : TS3 := (dSeq (dFor (iRange1 (dCB (cDer (rInt23 fun i j => if j > i then j else i)) (dCons (dC (.int 2)) (dCons (dCB (cDer (rInt23 fun i j => if j < i then j else i)) (dCons (dC (.int 6)) (dCons (dCB (cDer (rLen3 K)) (dCons (dView 0) dNil)) dNil))) dNil)))) (gNm 1)
    (dSeq (dSet (dCall (sp__law_box K) [] (dCons (dCall (sp__law_cell K) [] (dCons (dVar 0) (dCons (dVar 1) dNil))) dNil)) (gNm 2))
    (dSeq (dFor (iRange1 (dC (.int 3))) (gNm 3)
    (dSeq (dIf (dOr (dNot (dTest (dCall (sp__law_caught K) [] (dCons (dCall (sp__law_take K) [] (dCons (dVar 2) (dCons (dC (.int 5)) dNil))) (dCons (dCall (sp__law_thing K) [] (dCons (dVar 2) dNil)) dNil))))) (dNot (dTest (dCall (sp__law_right K) [] (dCons (dCall (sp__law_thing K) [] (dCons (dVar 2) dNil)) (dCons (dCall (sp__law_thing K) [] (dCons (dVar 2) dNil)) dNil))))))
    (dSeq (dRet (dC (.bl false)))
    dNext)
    dNext)
    dNext))
    (dSeq (dSet (dMk0 (ga K "TermError") (dC (.str "no proof"))) (gNm 4))
    (dSeq (dIf (dTest (dOp (rDer (rInA3 false)) (dC (.bl true)) (dOp (rDer rAdd3) (dCall (sp__law_sorts none K) [] (dCons (dVar 4) dNil)) (dCall (sp__law_others K) [] (dCons (dVar 4) dNil)))))
    (dSeq (dRet (dC (.bl false)))
    dNext)
    dNext)
    dNext)))))
    (dSeq (dRet (dC (.bl true)))
    dNext))
theorem b_law [xc : XCt] (fx : Fx K mg) (p__law_box : Fun3 P w K mg base 1 (ga K "_law_box") ["cell"] (sp__law_box K)) (p__law_caught : Fun3 P w K mg base 3 (ga K "_law_caught") ["way", "one"] (sp__law_caught K)) (p__law_cell : Fun3 P w K mg base 1 (ga K "_law_cell") ["script", "k"] (sp__law_cell K)) (p__law_others : Fun3 P w K mg base 1 (ga K "_law_others") ["e"] (sp__law_others K)) (p__law_right : Fun3 P w K mg base 4 (ga K "_law_right") ["one", "other"] (sp__law_right K)) (p__law_sorts : Fun3 P w K mg base 1 (ga K "_law_sorts") ["e"] (sp__law_sorts none K)) (p__law_take : Fun3 P w K mg base 1 (ga K "_law_take") ["box", "many"] (sp__law_take K)) (p__law_thing : Fun3 P w K mg base 3 (ga K "_law_thing") ["box"] (sp__law_thing K)) {cdv : Value} {A : Around} {outer : List Env} {s : Shared} {H : Hp} {E : XK} (hr : Rm 4 (cxOf (L2N.CX P w) P w K mg base N_law "law" (defScope (top 65)) (ga K "law") cdv A outer s H E)) :
    DSs (cxOf (L2N.CX P w) P w K mg base N_law "law" (defScope (top 65)) (ga K "law") cdv A outer s H E) (defBody (top 65)) (t_law K) := by
  have nd : (N_law : List Str).Nodup := sc_law.nd
  exact (dss_cons (ds_for (passes_of rfl) rfl (di_range1 (by rfl) (by exact fx.b_range) (d_callB (CallD.der (cd_max2 rfl)) (by rfl) (by exact fx.b_max) boot_max (dav_cons (.ofE d_int) (dav_cons (.ofE (d_callB (CallD.der (cd_min2 rfl)) (by rfl) (by exact fx.b_min) boot_min (dav_cons (.ofE d_int) (dav_cons (.ofE (d_callB (CallD.der cd_len) (by rfl) (by exact fx.b_len) boot_len (dav_cons (vv 0) dav_nil))) dav_nil)))) dav_nil)))) (dg_name nd rfl (by first | exact Or.inl rfl | exact Or.inr rfl))
    (dss_cons (ds_set (i := 2) nd rfl (by first | exact Or.inl rfl | exact Or.inr rfl) (d_callF p__law_box ⟨hr.r, hr.g⟩ (by exact fx.g__law_box) (da_cons (d_callF p__law_cell ⟨hr.r, hr.g⟩ (by exact fx.g__law_cell) (da_cons (dv 0) (da_cons (dv 1) da_nil))) da_nil)))
    (dss_cons (ds_for (passes_of rfl) rfl (di_range1 (by rfl) (by exact fx.b_range) d_int) (dg_name nd rfl (by first | exact Or.inl rfl | exact Or.inr rfl))
    (dss_cons (ds_if (dt_w (dw_or (dt_not (dt_val (d_callF p__law_caught ⟨hr.r, hr.g⟩ (by exact fx.g__law_caught) (da_cons (d_callF p__law_take ⟨hr.r, hr.g⟩ (by exact fx.g__law_take) (da_cons (dv 2) (da_cons d_int da_nil))) (da_cons (d_callF p__law_thing ⟨hr.r, hr.g⟩ (by exact fx.g__law_thing) (da_cons (dv 2) da_nil)) da_nil))))) (dw_or1 (dt_not (dt_val (d_callF p__law_right ⟨hr.r, hr.g⟩ (by exact fx.g__law_right) (da_cons (d_callF p__law_thing ⟨hr.r, hr.g⟩ (by exact fx.g__law_thing) (da_cons (dv 2) da_nil)) (da_cons (d_callF p__law_thing ⟨hr.r, hr.g⟩ (by exact fx.g__law_thing) (da_cons (dv 2) da_nil)) da_nil))))))))
    (dss_cons (ds_ret d_bl)
    dss_nil)
    dss_nil)
    dss_nil))
    (dss_cons (ds_set (i := 4) nd rfl (by first | exact Or.inl rfl | exact Or.inr rfl) (d_mk0 fx.xz_TermError (by exact fx.g_TermError) d_str))
    (dss_cons (ds_if (dt_cmp (OpD.der (od_inA hr.u)) (.ofE d_bl) (.ofE (d_op (OpD.der od_add) (.ofE (d_callF p__law_sorts ⟨hr.r, hr.g⟩ (by exact fx.g__law_sorts) (da_cons (dv 4) da_nil))) (.ofE (d_callF p__law_others ⟨hr.r, hr.g⟩ (by exact fx.g__law_others) (da_cons (dv 4) da_nil))))) rfl)
    (dss_cons (ds_ret d_bl)
    dss_nil)
    dss_nil)
    dss_nil)))))
    (dss_cons (ds_ret d_bl)
    dss_nil))
theorem o_law [xc : XCt] {Q : K3} {Y : X3} (xl : ∀ σ : St3, True → XLe Y σ) {E : Ends3} (hn : ∀ σ, NxS Q Y E.nx σ (pure .non)) (hrt : E.rt = Q) (script0 : D) :
    EvS Q Y (t_law K) E [some (S3.dat script0), none, none, none, none] (m_law K script0) := by
  obtain ⟨nx, rt, bk, ct, ro⟩ := E
  cases hrt
  unfold t_law m_law
  refine s_jn (fun (s6 : Unit) (σ' : St3) => ∃ w7 w8 w9 w10 : Option S3, σ' = [some (S3.dat script0), w7, w8, w9, w10]) (fun s39 σ' hs => ?_) fun j15 hj16 => ?_
  · obtain ⟨w35, w36, w37, w38, rfl⟩ := hs
    exact (s_ret0 (xl _ trivial) (fun _ _ q => q) ev_c)
  refine s_for (fun (s6 : Unit) (σ' : St3) => ∃ w7 w8 w9 w10 : Option S3, σ' = [some (S3.dat script0), w7, w8, w9, w10]) (xl _ trivial) (ei_range (ev_cb (ev_cons ev_c (ev_cons (ev_cb (ev_cons ev_c (ev_cons (ev_cb (ev_cons (ev_vd rfl) ev_nil)) ev_nil))) ev_nil)))) ?_ hj16 fun k'19 s6 σ' n17 N hs hn18 => ?_
  · exact ⟨_, _, _, _, rfl⟩
  obtain ⟨w7, w8, w9, w10, rfl⟩ := hs
  refine s_set (xl _ trivial) (ev_call (sp := (sp__law_box K)) (dds := []) (f := cl1 (m__law_box K)) (ev_cons (ev_call (sp := (sp__law_cell K)) (dds := []) (f := cl2 (m__law_cell K)) (ev_cons (ev_var rfl) (ev_cons (ev_var rfl) ev_nil)) (fun ds n Q Y h => by obtain ⟨a, b, rfl, h⟩ := cl2_inv h; exact ⟨_, _, rfl, h⟩)) ev_nil) (fun ds n Q Y h => by obtain ⟨a, rfl, h⟩ := cl1_inv h; exact ⟨_, rfl, h⟩)) fun box20 => ?_
  refine s_jn (fun (s21 : Unit) (σ' : St3) => ∃ w22 w23 : Option S3, σ' = [some (S3.dat script0), some (S3.dat k'19), some (S3.dat box20), w22, w23]) (fun s33 σ' hs => ?_) fun j26 hj27 => ?_
  · obtain ⟨w31, w32, rfl⟩ := hs
    refine s_set (xl _ trivial) (ev_mk0 ev_c) fun e'34 => ?_
    refine s_if (xl _ trivial) (ev_test (ev_op ev_c (ev_op (ev_call (sp := (sp__law_sorts none K)) (dds := []) (f := cl1 (m__law_sorts none K)) (ev_cons (ev_var rfl) ev_nil) (fun ds n Q Y h => by obtain ⟨a, rfl, h⟩ := cl1_inv h; exact ⟨_, rfl, h⟩)) (ev_call (sp := (sp__law_others K)) (dds := []) (f := cl1 (m__law_others K)) (ev_cons (ev_var rfl) ev_nil) (fun ds n Q Y h => by obtain ⟨a, rfl, h⟩ := cl1_inv h; exact ⟨_, rfl, h⟩))))) ?_ ?_
    · exact (s_ret0 (xl _ trivial) (fun _ _ q => q) ev_c)
    · exact s_next (hn18 _ _ ⟨_, _, _, _, rfl⟩)
  refine s_for (fun (s21 : Unit) (σ' : St3) => ∃ w22 w23 : Option S3, σ' = [some (S3.dat script0), some (S3.dat k'19), some (S3.dat box20), w22, w23]) (xl _ trivial) (ei_range ev_c) ?_ hj27 fun turn30 s21 σ' n28 N hs hn29 => ?_
  · exact ⟨_, _, rfl⟩
  obtain ⟨w22, w23, rfl⟩ := hs
  refine s_if (xl _ trivial) (ev_or (ev_not (ev_test (ev_call (sp := (sp__law_caught K)) (dds := []) (f := cl2 (m__law_caught K)) (ev_cons (ev_call (sp := (sp__law_take K)) (dds := []) (f := cl2 (m__law_take K)) (ev_cons (ev_var rfl) (ev_cons ev_c ev_nil)) (fun ds n Q Y h => by obtain ⟨a, b, rfl, h⟩ := cl2_inv h; exact ⟨_, _, rfl, h⟩)) (ev_cons (ev_call (sp := (sp__law_thing K)) (dds := []) (f := cl1 (m__law_thing K)) (ev_cons (ev_var rfl) ev_nil) (fun ds n Q Y h => by obtain ⟨a, rfl, h⟩ := cl1_inv h; exact ⟨_, rfl, h⟩)) ev_nil)) (fun ds n Q Y h => by obtain ⟨a, b, rfl, h⟩ := cl2_inv h; exact ⟨_, _, rfl, h⟩)))) (ev_not (ev_test (ev_call (sp := (sp__law_right K)) (dds := []) (f := cl2 (m__law_right K)) (ev_cons (ev_call (sp := (sp__law_thing K)) (dds := []) (f := cl1 (m__law_thing K)) (ev_cons (ev_var rfl) ev_nil) (fun ds n Q Y h => by obtain ⟨a, rfl, h⟩ := cl1_inv h; exact ⟨_, rfl, h⟩)) (ev_cons (ev_call (sp := (sp__law_thing K)) (dds := []) (f := cl1 (m__law_thing K)) (ev_cons (ev_var rfl) ev_nil) (fun ds n Q Y h => by obtain ⟨a, rfl, h⟩ := cl1_inv h; exact ⟨_, rfl, h⟩)) ev_nil)) (fun ds n Q Y h => by obtain ⟨a, b, rfl, h⟩ := cl2_inv h; exact ⟨_, _, rfl, h⟩))))) ?_ ?_
  · exact (s_ret0 (xl _ trivial) (fun _ _ q => q) ev_c)
  · exact s_next (hn29 _ _ ⟨_, _, rfl⟩)
theorem q_law (ds : List D) (n_ : Mem) (Q : K3) (Y : X3) (h : sp_law K ds n_ Q Y) : @t_law K ⟨fun e _ n' => Y e n'⟩ { nx := fun _ n' => Q .non n', rt := Q } (start3 N_law ds) n_ := by
  obtain ⟨script0, rfl, h⟩ := h
  exact (@o_law K ⟨fun e _ n' => Y e n'⟩ Q Y (fun _ _ _ _ q => q) _ (fun _ => ⟨fun _ q => q⟩) rfl script0).go n_ h
end
end W
set_option Elab.async false
set_option linter.all false
set_option maxRecDepth 100000
set_option maxHeartbeats 2000000
namespace W
open PySem PySem.Spec PyProof.Rows L2 L3 He
section
variable {P : Program} {w : World} {K : PySem.W.Frag} {mg : Str → Option Value} {base : Heap}
theorem p_NoModel (fx : Fx K mg) : Exc3 P w K mg base 1 (ga K "NoModel") "found" := by
  obtain ⟨fd, F⟩ := fx.xi_NoModel
  exact exc3_of (n := "found") fx.xe_NoModel F ⟨rfl, rfl, rfl, by decide +kernel, rfl, by decide +kernel, by decide +kernel⟩ (fun cdv A outer s H E => pss_exc (b := "TermError") rfl rfl (by first | exact Or.inl rfl | exact Or.inr (Or.inl rfl) | exact Or.inr (Or.inr rfl)) (by first | exact Or.inl rfl | exact Or.inr (Or.inl rfl) | exact Or.inr (Or.inr rfl)) rfl fx.g_TermError fx.xb_TermError) (F.bindsN fun _ _ _ _ _ _ us hl => match us, hl with | [_, _], _ => rfl)
theorem p_NoOrder (fx : Fx K mg) : Exc3 P w K mg base 1 (ga K "NoOrder") "found" := by
  obtain ⟨fd, F⟩ := fx.xi_NoOrder
  exact exc3_of (n := "found") fx.xe_NoOrder F ⟨rfl, rfl, rfl, by decide +kernel, rfl, by decide +kernel, by decide +kernel⟩ (fun cdv A outer s H E => pss_exc (b := "TermError") rfl rfl (by first | exact Or.inl rfl | exact Or.inr (Or.inl rfl) | exact Or.inr (Or.inr rfl)) (by first | exact Or.inl rfl | exact Or.inr (Or.inl rfl) | exact Or.inr (Or.inr rfl)) rfl fx.g_TermError fx.xb_TermError) (F.bindsN fun _ _ _ _ _ _ us hl => match us, hl with | [_, _], _ => rfl)
theorem p_NoStep (fx : Fx K mg) : Exc3 P w K mg base 1 (ga K "NoStep") "at" := by
  obtain ⟨fd, F⟩ := fx.xi_NoStep
  exact exc3_of (n := "at") fx.xe_NoStep F ⟨rfl, rfl, rfl, by decide +kernel, rfl, by decide +kernel, by decide +kernel⟩ (fun cdv A outer s H E => pss_exc (b := "TermError") rfl rfl (by first | exact Or.inl rfl | exact Or.inr (Or.inl rfl) | exact Or.inr (Or.inr rfl)) (by first | exact Or.inl rfl | exact Or.inr (Or.inl rfl) | exact Or.inr (Or.inr rfl)) rfl fx.g_TermError fx.xb_TermError) (F.bindsN fun _ _ _ _ _ _ us hl => match us, hl with | [_, _], _ => rfl)
theorem p_mk_NoCompleting (fx : Fx K mg) : Exr3 P w K mg base 1 (ga K "NoCompleting") "found" "no completion" "found" := by
  obtain ⟨fd, F⟩ := fx.xi_NoCompleting
  exact exr3_of (n := "found") fx.xe_NoCompleting F ⟨rfl, rfl, rfl, by decide +kernel, rfl, by decide +kernel, by decide +kernel⟩ (fun cdv A outer s H E => pss_exr (b := "TermError") rfl rfl (by first | exact Or.inl rfl | exact Or.inr (Or.inl rfl) | exact Or.inr (Or.inr rfl)) (by first | exact Or.inl rfl | exact Or.inr (Or.inl rfl) | exact Or.inr (Or.inr rfl)) rfl fx.g_TermError fx.xb_TermError) (F.bindsN fun _ _ _ _ _ _ us hl => match us, hl with | [_, _], _ => rfl) (fun kV doc pm an cdv ct u v => rfl)
theorem p_mk_NoEquations (fx : Fx K mg) : Exr3 P w K mg base 1 (ga K "NoEquations") "found" "no list of equations" "found" := by
  obtain ⟨fd, F⟩ := fx.xi_NoEquations
  exact exr3_of (n := "found") fx.xe_NoEquations F ⟨rfl, rfl, rfl, by decide +kernel, rfl, by decide +kernel, by decide +kernel⟩ (fun cdv A outer s H E => pss_exr (b := "TermError") rfl rfl (by first | exact Or.inl rfl | exact Or.inr (Or.inl rfl) | exact Or.inr (Or.inr rfl)) (by first | exact Or.inl rfl | exact Or.inr (Or.inl rfl) | exact Or.inr (Or.inr rfl)) rfl fx.g_TermError fx.xb_TermError) (F.bindsN fun _ _ _ _ _ _ us hl => match us, hl with | [_, _], _ => rfl) (fun kV doc pm an cdv ct u v => rfl)
theorem p_mk_NoMakers (fx : Fx K mg) : Exr3 P w K mg base 1 (ga K "NoMakers") "found" "no list of makers" "found" := by
  obtain ⟨fd, F⟩ := fx.xi_NoMakers
  exact exr3_of (n := "found") fx.xe_NoMakers F ⟨rfl, rfl, rfl, by decide +kernel, rfl, by decide +kernel, by decide +kernel⟩ (fun cdv A outer s H E => pss_exr (b := "TermError") rfl rfl (by first | exact Or.inl rfl | exact Or.inr (Or.inl rfl) | exact Or.inr (Or.inr rfl)) (by first | exact Or.inl rfl | exact Or.inr (Or.inl rfl) | exact Or.inr (Or.inr rfl)) rfl fx.g_TermError fx.xb_TermError) (F.bindsN fun _ _ _ _ _ _ us hl => match us, hl with | [_, _], _ => rfl) (fun kV doc pm an cdv ct u v => rfl)
theorem p_mk_NoModel (fx : Fx K mg) : Exr3 P w K mg base 1 (ga K "NoModel") "found" "no model" "found" := by
  obtain ⟨fd, F⟩ := fx.xi_NoModel
  exact exr3_of (n := "found") fx.xe_NoModel F ⟨rfl, rfl, rfl, by decide +kernel, rfl, by decide +kernel, by decide +kernel⟩ (fun cdv A outer s H E => pss_exr (b := "TermError") rfl rfl (by first | exact Or.inl rfl | exact Or.inr (Or.inl rfl) | exact Or.inr (Or.inr rfl)) (by first | exact Or.inl rfl | exact Or.inr (Or.inl rfl) | exact Or.inr (Or.inr rfl)) rfl fx.g_TermError fx.xb_TermError) (F.bindsN fun _ _ _ _ _ _ us hl => match us, hl with | [_, _], _ => rfl) (fun kV doc pm an cdv ct u v => rfl)
theorem p_mk_NoNames (fx : Fx K mg) : Exr3 P w K mg base 1 (ga K "NoNames") "found" "no list of all names" "found" := by
  obtain ⟨fd, F⟩ := fx.xi_NoNames
  exact exr3_of (n := "found") fx.xe_NoNames F ⟨rfl, rfl, rfl, by decide +kernel, rfl, by decide +kernel, by decide +kernel⟩ (fun cdv A outer s H E => pss_exr (b := "TermError") rfl rfl (by first | exact Or.inl rfl | exact Or.inr (Or.inl rfl) | exact Or.inr (Or.inr rfl)) (by first | exact Or.inl rfl | exact Or.inr (Or.inl rfl) | exact Or.inr (Or.inr rfl)) rfl fx.g_TermError fx.xb_TermError) (F.bindsN fun _ _ _ _ _ _ us hl => match us, hl with | [_, _], _ => rfl) (fun kV doc pm an cdv ct u v => rfl)
theorem p_mk_NoOrder (fx : Fx K mg) : Exr3 P w K mg base 1 (ga K "NoOrder") "found" "no order" "found" := by
  obtain ⟨fd, F⟩ := fx.xi_NoOrder
  exact exr3_of (n := "found") fx.xe_NoOrder F ⟨rfl, rfl, rfl, by decide +kernel, rfl, by decide +kernel, by decide +kernel⟩ (fun cdv A outer s H E => pss_exr (b := "TermError") rfl rfl (by first | exact Or.inl rfl | exact Or.inr (Or.inl rfl) | exact Or.inr (Or.inr rfl)) (by first | exact Or.inl rfl | exact Or.inr (Or.inl rfl) | exact Or.inr (Or.inr rfl)) rfl fx.g_TermError fx.xb_TermError) (F.bindsN fun _ _ _ _ _ _ us hl => match us, hl with | [_, _], _ => rfl) (fun kV doc pm an cdv ct u v => rfl)
theorem p_mk_NoStep (fx : Fx K mg) : Exr3 P w K mg base 1 (ga K "NoStep") "at" "nothing that can be rewritten" "at" := by
  obtain ⟨fd, F⟩ := fx.xi_NoStep
  exact exr3_of (n := "at") fx.xe_NoStep F ⟨rfl, rfl, rfl, by decide +kernel, rfl, by decide +kernel, by decide +kernel⟩ (fun cdv A outer s H E => pss_exr (b := "TermError") rfl rfl (by first | exact Or.inl rfl | exact Or.inr (Or.inl rfl) | exact Or.inr (Or.inr rfl)) (by first | exact Or.inl rfl | exact Or.inr (Or.inl rfl) | exact Or.inr (Or.inr rfl)) rfl fx.g_TermError fx.xb_TermError) (F.bindsN fun _ _ _ _ _ _ us hl => match us, hl with | [_, _], _ => rfl) (fun kV doc pm an cdv ct u v => rfl)
theorem p_mk_NoTerm (fx : Fx K mg) : Exr3 P w K mg base 1 (ga K "NoTerm") "found" "no term" "found" := by
  obtain ⟨fd, F⟩ := fx.xi_NoTerm
  exact exr3_of (n := "found") fx.xe_NoTerm F ⟨rfl, rfl, rfl, by decide +kernel, rfl, by decide +kernel, by decide +kernel⟩ (fun cdv A outer s H E => pss_exr (b := "TermError") rfl rfl (by first | exact Or.inl rfl | exact Or.inr (Or.inl rfl) | exact Or.inr (Or.inr rfl)) (by first | exact Or.inl rfl | exact Or.inr (Or.inl rfl) | exact Or.inr (Or.inr rfl)) rfl fx.g_TermError fx.xb_TermError) (F.bindsN fun _ _ _ _ _ _ us hl => match us, hl with | [_, _], _ => rfl) (fun kV doc pm an cdv ct u v => rfl)
theorem p_mk_NoWeights (fx : Fx K mg) : Exr3 P w K mg base 1 (ga K "NoWeights") "found" "no list of weights" "found" := by
  obtain ⟨fd, F⟩ := fx.xi_NoWeights
  exact exr3_of (n := "found") fx.xe_NoWeights F ⟨rfl, rfl, rfl, by decide +kernel, rfl, by decide +kernel, by decide +kernel⟩ (fun cdv A outer s H E => pss_exr (b := "TermError") rfl rfl (by first | exact Or.inl rfl | exact Or.inr (Or.inl rfl) | exact Or.inr (Or.inr rfl)) (by first | exact Or.inl rfl | exact Or.inr (Or.inl rfl) | exact Or.inr (Or.inr rfl)) rfl fx.g_TermError fx.xb_TermError) (F.bindsN fun _ _ _ _ _ _ us hl => match us, hl with | [_, _], _ => rfl) (fun kV doc pm an cdv ct u v => rfl)
theorem p_mk_NotAdmitted (fx : Fx K mg) : Exr3 P w K mg base 1 (ga K "NotAdmitted") "found" "a word that breaks the conditions of an order" "found" := by
  obtain ⟨fd, F⟩ := fx.xi_NotAdmitted
  exact exr3_of (n := "found") fx.xe_NotAdmitted F ⟨rfl, rfl, rfl, by decide +kernel, rfl, by decide +kernel, by decide +kernel⟩ (fun cdv A outer s H E => pss_exr (b := "TermError") rfl rfl (by first | exact Or.inl rfl | exact Or.inr (Or.inl rfl) | exact Or.inr (Or.inr rfl)) (by first | exact Or.inl rfl | exact Or.inr (Or.inl rfl) | exact Or.inr (Or.inr rfl)) rfl fx.g_TermError fx.xb_TermError) (F.bindsN fun _ _ _ _ _ _ us hl => match us, hl with | [_, _], _ => rfl) (fun kV doc pm an cdv ct u v => rfl)
theorem p_mk_NotGround (fx : Fx K mg) : Exr3 P w K mg base 1 (ga K "NotGround") "found" "a term with letters" "found" := by
  obtain ⟨fd, F⟩ := fx.xi_NotGround
  exact exr3_of (n := "found") fx.xe_NotGround F ⟨rfl, rfl, rfl, by decide +kernel, rfl, by decide +kernel, by decide +kernel⟩ (fun cdv A outer s H E => pss_exr (b := "TermError") rfl rfl (by first | exact Or.inl rfl | exact Or.inr (Or.inl rfl) | exact Or.inr (Or.inr rfl)) (by first | exact Or.inl rfl | exact Or.inr (Or.inl rfl) | exact Or.inr (Or.inr rfl)) rfl fx.g_TermError fx.xb_TermError) (F.bindsN fun _ _ _ _ _ _ us hl => match us, hl with | [_, _], _ => rfl) (fun kV doc pm an cdv ct u v => rfl)
theorem p_mk_NotLinear (fx : Fx K mg) : Exr3 P w K mg base 1 (ga K "NotLinear") "found" "a pattern with a letter that stands twice" "found" := by
  obtain ⟨fd, F⟩ := fx.xi_NotLinear
  exact exr3_of (n := "found") fx.xe_NotLinear F ⟨rfl, rfl, rfl, by decide +kernel, rfl, by decide +kernel, by decide +kernel⟩ (fun cdv A outer s H E => pss_exr (b := "TermError") rfl rfl (by first | exact Or.inl rfl | exact Or.inr (Or.inl rfl) | exact Or.inr (Or.inr rfl)) (by first | exact Or.inl rfl | exact Or.inr (Or.inl rfl) | exact Or.inr (Or.inr rfl)) rfl fx.g_TermError fx.xb_TermError) (F.bindsN fun _ _ _ _ _ _ us hl => match us, hl with | [_, _], _ => rfl) (fun kV doc pm an cdv ct u v => rfl)
theorem p_mk_NotOrdered (fx : Fx K mg) : Exr3 P w K mg base 1 (ga K "NotOrdered") "at" "sides of which neither is greater" "at" := by
  obtain ⟨fd, F⟩ := fx.xi_NotOrdered
  exact exr3_of (n := "at") fx.xe_NotOrdered F ⟨rfl, rfl, rfl, by decide +kernel, rfl, by decide +kernel, by decide +kernel⟩ (fun cdv A outer s H E => pss_exr (b := "TermError") rfl rfl (by first | exact Or.inl rfl | exact Or.inr (Or.inl rfl) | exact Or.inr (Or.inr rfl)) (by first | exact Or.inl rfl | exact Or.inr (Or.inl rfl) | exact Or.inr (Or.inr rfl)) rfl fx.g_TermError fx.xb_TermError) (F.bindsN fun _ _ _ _ _ _ us hl => match us, hl with | [_, _], _ => rfl) (fun kV doc pm an cdv ct u v => rfl)
theorem p_mk_NotSame (fx : Fx K mg) : Exr3 P w K mg base 1 (ga K "NotSame") "at" "sides that are not the same" "at" := by
  obtain ⟨fd, F⟩ := fx.xi_NotSame
  exact exr3_of (n := "at") fx.xe_NotSame F ⟨rfl, rfl, rfl, by decide +kernel, rfl, by decide +kernel, by decide +kernel⟩ (fun cdv A outer s H E => pss_exr (b := "TermError") rfl rfl (by first | exact Or.inl rfl | exact Or.inr (Or.inl rfl) | exact Or.inr (Or.inr rfl)) (by first | exact Or.inl rfl | exact Or.inr (Or.inl rfl) | exact Or.inr (Or.inr rfl)) rfl fx.g_TermError fx.xb_TermError) (F.bindsN fun _ _ _ _ _ _ us hl => match us, hl with | [_, _], _ => rfl) (fun kV doc pm an cdv ct u v => rfl)
theorem p_mk_Unfinished (fx : Fx K mg) : Exr3 P w K mg base 1 (ga K "Unfinished") "found" "a completion that is not finished" "found" := by
  obtain ⟨fd, F⟩ := fx.xi_Unfinished
  exact exr3_of (n := "found") fx.xe_Unfinished F ⟨rfl, rfl, rfl, by decide +kernel, rfl, by decide +kernel, by decide +kernel⟩ (fun cdv A outer s H E => pss_exr (b := "TermError") rfl rfl (by first | exact Or.inl rfl | exact Or.inr (Or.inl rfl) | exact Or.inr (Or.inr rfl)) (by first | exact Or.inl rfl | exact Or.inr (Or.inl rfl) | exact Or.inr (Or.inr rfl)) rfl fx.g_TermError fx.xb_TermError) (F.bindsN fun _ _ _ _ _ _ us hl => match us, hl with | [_, _], _ => rfl) (fun kV doc pm an cdv ct u v => rfl)
theorem p_ek_NotOrdered (fx : Fx K mg) : Exk3 P w K mg base 1 (ga K "NotOrdered") "at" "at" := by
  obtain ⟨fd, F⟩ := fx.xi_NotOrdered
  exact exk3_of (n := "at") fx.xe_NotOrdered F ⟨rfl, rfl, rfl, by decide +kernel, rfl, by decide +kernel, by decide +kernel⟩ (fun cdv A outer s H E => pss_exc (b := "TermError") rfl rfl (by first | exact Or.inl rfl | exact Or.inr (Or.inl rfl) | exact Or.inr (Or.inr rfl)) (by first | exact Or.inl rfl | exact Or.inr (Or.inl rfl) | exact Or.inr (Or.inr rfl)) rfl fx.g_TermError fx.xb_TermError) (fun kV doc pm an cdv ct u v => rfl)
theorem p_ek_Unfinished (fx : Fx K mg) : Exk3 P w K mg base 1 (ga K "Unfinished") "found" "found" := by
  obtain ⟨fd, F⟩ := fx.xi_Unfinished
  exact exk3_of (n := "found") fx.xe_Unfinished F ⟨rfl, rfl, rfl, by decide +kernel, rfl, by decide +kernel, by decide +kernel⟩ (fun cdv A outer s H E => pss_exc (b := "TermError") rfl rfl (by first | exact Or.inl rfl | exact Or.inr (Or.inl rfl) | exact Or.inr (Or.inr rfl)) (by first | exact Or.inl rfl | exact Or.inr (Or.inl rfl) | exact Or.inr (Or.inr rfl)) rfl fx.g_TermError fx.xb_TermError) (fun kV doc pm an cdv ct u v => rfl)
theorem ok__law_cell (fx : Fx K mg) {fd : FuncData} (F : FunD K "_law_cell" "_law_cell" (defArgs (top 53)) (defBody (top 53)) (defScope (top 53)) [] [] (ga K "_law_cell") fd) : FnG P w K mg base (L2N.CX P w) 1 (ga K "_law_cell") fd ["script", "k"] (spOf (sp__law_cell K)) :=
  fn3 (t := fun xc => @t__law_cell K xc) F sc__law_cell (fun ds n Q Y h => by unfold sp__law_cell sp2 at h; obtain ⟨_, _, rfl, _⟩ := h; rfl) (fun xc cdv A outer s H E hr hg => letI := xc; b__law_cell fx  ⟨hr, hg⟩) (fun ds n Q Y h => q__law_cell ds n Q Y h)
theorem p__law_cell (fx : Fx K mg) : Fun3 P w K mg base 1 (ga K "_law_cell") ["script", "k"] (sp__law_cell K) := by
  obtain ⟨fd, F⟩ := fx.F__law_cell
  exact ⟨fd, ok__law_cell fx F, F.bindsN fun _ _ _ _ _ _ us hl => match us, hl with | [_, _], _ => rfl, F.kp⟩
theorem ok__law_box (fx : Fx K mg) {fd : FuncData} (F : FunD K "_law_box" "_law_box" (defArgs (top 54)) (defBody (top 54)) (defScope (top 54)) [] [] (ga K "_law_box") fd) : FnG P w K mg base (L2N.CX P w) 1 (ga K "_law_box") fd ["cell"] (spOf (sp__law_box K)) :=
  fn3 (t := fun xc => @t__law_box K xc) F sc__law_box (fun ds n Q Y h => by unfold sp__law_box sp1 at h; obtain ⟨_, rfl, _⟩ := h; rfl) (fun xc cdv A outer s H E hr hg => letI := xc; b__law_box fx  ⟨hr, hg⟩) (fun ds n Q Y h => q__law_box ds n Q Y h)
theorem p__law_box (fx : Fx K mg) : Fun3 P w K mg base 1 (ga K "_law_box") ["cell"] (sp__law_box K) := by
  obtain ⟨fd, F⟩ := fx.F__law_box
  exact ⟨fd, ok__law_box fx F, F.bindsN fun _ _ _ _ _ _ us hl => match us, hl with | [_], _ => rfl, F.kp⟩
theorem ok__law_take (fx : Fx K mg) {fd : FuncData} (F : FunD K "_law_take" "_law_take" (defArgs (top 55)) (defBody (top 55)) (defScope (top 55)) [] [] (ga K "_law_take") fd) : FnG P w K mg base (L2N.CX P w) 1 (ga K "_law_take") fd ["box", "many"] (spOf (sp__law_take K)) :=
  fn3 (t := fun xc => @t__law_take K xc) F sc__law_take (fun ds n Q Y h => by unfold sp__law_take sp2 at h; obtain ⟨_, _, rfl, _⟩ := h; rfl) (fun xc cdv A outer s H E hr hg => letI := xc; b__law_take fx  ⟨hr, hg⟩) (fun ds n Q Y h => q__law_take ds n Q Y h)
theorem p__law_take (fx : Fx K mg) : Fun3 P w K mg base 1 (ga K "_law_take") ["box", "many"] (sp__law_take K) := by
  obtain ⟨fd, F⟩ := fx.F__law_take
  exact ⟨fd, ok__law_take fx F, F.bindsN fun _ _ _ _ _ _ us hl => match us, hl with | [_, _], _ => rfl, F.kp⟩
theorem ok__law_very (fx : Fx K mg) {fd : FuncData} (F : FunD K "_law_very" "_law_very" (defArgs (top 56)) (defBody (top 56)) (defScope (top 56)) [] [] (ga K "_law_very") fd) : FnG P w K mg base (L2N.CX P w) 1 (ga K "_law_very") fd ["given", "thing"] (spOf (sp__law_very K)) :=
  fn3 (t := fun xc => @t__law_very K xc) F sc__law_very (fun ds n Q Y h => by unfold sp__law_very sp2 at h; obtain ⟨_, _, rfl, _⟩ := h; rfl) (fun xc cdv A outer s H E hr hg => letI := xc; b__law_very fx  ⟨hr, hg⟩) (fun ds n Q Y h => q__law_very ds n Q Y h)
theorem p__law_very (fx : Fx K mg) : Fun3 P w K mg base 1 (ga K "_law_very") ["given", "thing"] (sp__law_very K) := by
  obtain ⟨fd, F⟩ := fx.F__law_very
  exact ⟨fd, ok__law_very fx F, F.bindsN fun _ _ _ _ _ _ us hl => match us, hl with | [_, _], _ => rfl, F.kp⟩
theorem ok__law_by_place (fx : Fx K mg) {fd : FuncData} (F : FunD K "_law_by_place" "_law_by_place" (defArgs (top 57)) (defBody (top 57)) (defScope (top 57)) [] [] (ga K "_law_by_place") fd) : FnG P w K mg base (L2N.CX P w) 3 (ga K "_law_by_place") fd ["one"] (spOf (sp__law_by_place K)) :=
  fn3 (t := fun xc => @t__law_by_place K xc) F sc__law_by_place (fun ds n Q Y h => by unfold sp__law_by_place sp1 at h; obtain ⟨_, rfl, _⟩ := h; rfl) (fun xc cdv A outer s H E hr hg => letI := xc; b__law_by_place fx (p_mk_NoCompleting fx) (p_mk_NoEquations fx) (p_mk_NoMakers fx) (p_mk_NoModel fx) (p_mk_NoNames fx) (p_mk_NoOrder fx) (p_mk_NoStep fx) (p_mk_NoWeights fx) (p_mk_NotAdmitted fx) (p_mk_NotGround fx) (p_mk_NotLinear fx) (p_mk_NotOrdered fx) (p_mk_NotSame fx) (p_mk_Unfinished fx) ⟨hr, hg⟩) (fun ds n Q Y h => q__law_by_place ds n Q Y h)
theorem p__law_by_place (fx : Fx K mg) : Fun3 P w K mg base 3 (ga K "_law_by_place") ["one"] (sp__law_by_place K) := by
  obtain ⟨fd, F⟩ := fx.F__law_by_place
  exact ⟨fd, ok__law_by_place fx F, F.bindsN fun _ _ _ _ _ _ us hl => match us, hl with | [_], _ => rfl, F.kp⟩
theorem ok__law_by_name (fx : Fx K mg) {fd : FuncData} (F : FunD K "_law_by_name" "_law_by_name" (defArgs (top 58)) (defBody (top 58)) (defScope (top 58)) [] [] (ga K "_law_by_name") fd) : FnG P w K mg base (L2N.CX P w) 3 (ga K "_law_by_name") fd ["one"] (spOf (sp__law_by_name K)) :=
  fn3 (t := fun xc => @t__law_by_name K xc) F sc__law_by_name (fun ds n Q Y h => by unfold sp__law_by_name sp1 at h; obtain ⟨_, rfl, _⟩ := h; rfl) (fun xc cdv A outer s H E hr hg => letI := xc; b__law_by_name fx (p_mk_NoCompleting fx) (p_mk_NoEquations fx) (p_mk_NoMakers fx) (p_mk_NoModel fx) (p_mk_NoNames fx) (p_mk_NoOrder fx) (p_mk_NoStep fx) (p_mk_NoWeights fx) (p_mk_NotAdmitted fx) (p_mk_NotGround fx) (p_mk_NotLinear fx) (p_mk_NotOrdered fx) (p_mk_NotSame fx) (p_mk_Unfinished fx) ⟨hr, hg⟩) (fun ds n Q Y h => q__law_by_name ds n Q Y h)
theorem p__law_by_name (fx : Fx K mg) : Fun3 P w K mg base 3 (ga K "_law_by_name") ["one"] (sp__law_by_name K) := by
  obtain ⟨fd, F⟩ := fx.F__law_by_name
  exact ⟨fd, ok__law_by_name fx F, F.bindsN fun _ _ _ _ _ _ us hl => match us, hl with | [_], _ => rfl, F.kp⟩
theorem ok__law_sorts (fx : Fx K mg) {fd : FuncData} (F : FunD K "_law_sorts" "_law_sorts" (defArgs (top 59)) (defBody (top 59)) (defScope (top 59)) [] [] (ga K "_law_sorts") fd) : FnG P w K mg base (L2N.CX P w) 1 (ga K "_law_sorts") fd ["e"] (spOf (sp__law_sorts none K)) :=
  fn3 (t := fun xc => @t__law_sorts none K xc) F sc__law_sorts (fun ds n Q Y h => by unfold sp__law_sorts sp1 at h; obtain ⟨_, rfl, _⟩ := h; rfl) (fun xc cdv A outer s H E hr hg => letI := xc; b__law_sorts fx  ⟨hr, hg⟩) (fun ds n Q Y h => q__law_sorts none ds n Q Y h)
theorem okZ__law_sorts (fx : Fx K mg) {p : Addr × Obj} {C : Addr} {d : Option Addr} (hz : L2N.Zn (.ref C) d p.2) (hf : ∃ vs, p.2.data = .fields vs) {fd : FuncData} (F : FunD K "_law_sorts" "_law_sorts" (defArgs (top 59)) (defBody (top 59)) (defScope (top 59)) [] [] (ga K "_law_sorts") fd) : L2H.FnHp p P w K mg base (L2N.CX P w) 1 (ga K "_law_sorts") fd ["e"] (spOf (sp__law_sorts (some (p.1, C, d)) K)) :=
  fn3Z (t := fun xc => @t__law_sorts (some (p.1, C, d)) K xc) F sc__law_sorts (fun ds n Q Y h => by unfold sp__law_sorts sp1 at h; obtain ⟨_, rfl, _⟩ := h; rfl) (fun xc cdv A outer s H E hot hr => letI := xc; bZ__law_sorts fx hz hf (rmZ_def hot hr)) (fun ds n Q Y h => q__law_sorts _ ds n Q Y h)
theorem pZ__law_sorts (fx : Fx K mg) : Fun3Z P w K mg base 1 (ga K "_law_sorts") ["e"] (fun z => sp__law_sorts z K) := by
  obtain ⟨fd, F⟩ := fx.F__law_sorts
  exact ⟨fd, fun p C d hz hf => okZ__law_sorts fx hz hf F, F.bindsN fun _ _ _ _ _ _ us hl => match us, hl with | [_], _ => rfl, F.kp⟩
theorem p__law_sorts (fx : Fx K mg) : Fun3 P w K mg base 1 (ga K "_law_sorts") ["e"] (sp__law_sorts none K) := by
  obtain ⟨fd, F⟩ := fx.F__law_sorts
  exact ⟨fd, ok__law_sorts fx F, F.bindsN fun _ _ _ _ _ _ us hl => match us, hl with | [_], _ => rfl, F.kp⟩
theorem ok__law_others (fx : Fx K mg) {fd : FuncData} (F : FunD K "_law_others" "_law_others" (defArgs (top 60)) (defBody (top 60)) (defScope (top 60)) [] [] (ga K "_law_others") fd) : FnG P w K mg base (L2N.CX P w) 1 (ga K "_law_others") fd ["e"] (spOf (sp__law_others K)) :=
  fn3 (t := fun xc => @t__law_others K xc) F sc__law_others (fun ds n Q Y h => by unfold sp__law_others sp1 at h; obtain ⟨_, rfl, _⟩ := h; rfl) (fun xc cdv A outer s H E hr hg => letI := xc; b__law_others fx  ⟨hr, hg⟩) (fun ds n Q Y h => q__law_others ds n Q Y h)
theorem p__law_others (fx : Fx K mg) : Fun3 P w K mg base 1 (ga K "_law_others") ["e"] (sp__law_others K) := by
  obtain ⟨fd, F⟩ := fx.F__law_others
  exact ⟨fd, ok__law_others fx F, F.bindsN fun _ _ _ _ _ _ us hl => match us, hl with | [_], _ => rfl, F.kp⟩
theorem ok__law_field (fx : Fx K mg) {fd : FuncData} (F : FunD K "_law_field" "_law_field" (defArgs (top 61)) (defBody (top 61)) (defScope (top 61)) [] [] (ga K "_law_field") fd) : FnG P w K mg base (L2N.CX P w) 1 (ga K "_law_field") fd ["e", "place"] (spOf (sp__law_field none K)) :=
  fn3 (t := fun xc => @t__law_field none K xc) F sc__law_field (fun ds n Q Y h => by unfold sp__law_field sp2 at h; obtain ⟨_, _, rfl, _⟩ := h; rfl) (fun xc cdv A outer s H E hr hg => letI := xc; b__law_field fx  ⟨hr, hg⟩) (fun ds n Q Y h => q__law_field none ds n Q Y h)
theorem okZ__law_field (fx : Fx K mg) {p : Addr × Obj} {C : Addr} {d : Option Addr} (hz : L2N.Zn (.ref C) d p.2) (hf : ∃ vs, p.2.data = .fields vs) {fd : FuncData} (F : FunD K "_law_field" "_law_field" (defArgs (top 61)) (defBody (top 61)) (defScope (top 61)) [] [] (ga K "_law_field") fd) : L2H.FnHp p P w K mg base (L2N.CX P w) 1 (ga K "_law_field") fd ["e", "place"] (spOf (sp__law_field (some (p.1, C, d)) K)) :=
  fn3Z (t := fun xc => @t__law_field (some (p.1, C, d)) K xc) F sc__law_field (fun ds n Q Y h => by unfold sp__law_field sp2 at h; obtain ⟨_, _, rfl, _⟩ := h; rfl) (fun xc cdv A outer s H E hot hr => letI := xc; bZ__law_field fx hz hf (rmZ_def hot hr)) (fun ds n Q Y h => q__law_field _ ds n Q Y h)
theorem pZ__law_field (fx : Fx K mg) : Fun3Z P w K mg base 1 (ga K "_law_field") ["e", "place"] (fun z => sp__law_field z K) := by
  obtain ⟨fd, F⟩ := fx.F__law_field
  exact ⟨fd, fun p C d hz hf => okZ__law_field fx hz hf F, F.bindsN fun _ _ _ _ _ _ us hl => match us, hl with | [_, _], _ => rfl, F.kp⟩
theorem p__law_field (fx : Fx K mg) : Fun3 P w K mg base 1 (ga K "_law_field") ["e", "place"] (sp__law_field none K) := by
  obtain ⟨fd, F⟩ := fx.F__law_field
  exact ⟨fd, ok__law_field fx F, F.bindsN fun _ _ _ _ _ _ us hl => match us, hl with | [_, _], _ => rfl, F.kp⟩
theorem ok__law_thing (fx : Fx K mg) {fd : FuncData} (F : FunD K "_law_thing" "_law_thing" (defArgs (top 62)) (defBody (top 62)) (defScope (top 62)) [] [] (ga K "_law_thing") fd) : FnG P w K mg base (L2N.CX P w) 3 (ga K "_law_thing") fd ["box"] (spOf (sp__law_thing K)) :=
  fn3 (t := fun xc => @t__law_thing K xc) F sc__law_thing (fun ds n Q Y h => by unfold sp__law_thing sp1 at h; obtain ⟨_, rfl, _⟩ := h; rfl) (fun xc cdv A outer s H E hr hg => letI := xc; b__law_thing fx (p__law_take fx) (p_mk_NoTerm fx) ⟨hr, hg⟩) (fun ds n Q Y h => q__law_thing ds n Q Y h)
theorem p__law_thing (fx : Fx K mg) : Fun3 P w K mg base 3 (ga K "_law_thing") ["box"] (sp__law_thing K) := by
  obtain ⟨fd, F⟩ := fx.F__law_thing
  exact ⟨fd, ok__law_thing fx F, F.bindsN fun _ _ _ _ _ _ us hl => match us, hl with | [_], _ => rfl, F.kp⟩
theorem ok__law_caught (fx : Fx K mg) {fd : FuncData} (F : FunD K "_law_caught" "_law_caught" (defArgs (top 63)) (defBody (top 63)) (defScope (top 63)) [] [] (ga K "_law_caught") fd) : FnG P w K mg base (L2N.CX P w) 3 (ga K "_law_caught") fd ["way", "one"] (spOf (sp__law_caught K)) :=
  fn3 (t := fun xc => @t__law_caught K xc) F sc__law_caught (fun ds n Q Y h => by unfold sp__law_caught sp2 at h; obtain ⟨_, _, rfl, _⟩ := h; rfl) (fun xc cdv A outer s H E hr hg => letI := xc; b__law_caught fx (pZ__law_field fx) (pZ__law_sorts fx) (p_NoModel fx) (p_NoOrder fx) (p_NoStep fx) (p_ek_NotOrdered fx) (p_ek_Unfinished fx) ⟨hr, hg⟩) (fun ds n Q Y h => q__law_caught ds n Q Y h)
theorem p__law_caught (fx : Fx K mg) : Fun3 P w K mg base 3 (ga K "_law_caught") ["way", "one"] (sp__law_caught K) := by
  obtain ⟨fd, F⟩ := fx.F__law_caught
  exact ⟨fd, ok__law_caught fx F, F.bindsN fun _ _ _ _ _ _ us hl => match us, hl with | [_, _], _ => rfl, F.kp⟩
theorem ok__law_right (fx : Fx K mg) {fd : FuncData} (F : FunD K "_law_right" "_law_right" (defArgs (top 64)) (defBody (top 64)) (defScope (top 64)) [] [] (ga K "_law_right") fd) : FnG P w K mg base (L2N.CX P w) 4 (ga K "_law_right") fd ["one", "other"] (spOf (sp__law_right K)) :=
  fn3 (t := fun xc => @t__law_right K xc) F sc__law_right (fun ds n Q Y h => by unfold sp__law_right sp2 at h; obtain ⟨_, _, rfl, _⟩ := h; rfl) (fun xc cdv A outer s H E hr hg => letI := xc; b__law_right fx (p__law_by_name fx) (p__law_by_place fx) (p__law_field fx) (p__law_others fx) (p__law_sorts fx) (p__law_very fx) ⟨hr, hg⟩) (fun ds n Q Y h => q__law_right ds n Q Y h)
theorem p__law_right (fx : Fx K mg) : Fun3 P w K mg base 4 (ga K "_law_right") ["one", "other"] (sp__law_right K) := by
  obtain ⟨fd, F⟩ := fx.F__law_right
  exact ⟨fd, ok__law_right fx F, F.bindsN fun _ _ _ _ _ _ us hl => match us, hl with | [_, _], _ => rfl, F.kp⟩
theorem ok_law (fx : Fx K mg) {fd : FuncData} (F : FunD K "law" "law" (defArgs (top 65)) (defBody (top 65)) (defScope (top 65)) [] [] (ga K "law") fd) : FnG P w K mg base (L2N.CX P w) 5 (ga K "law") fd ["script"] (spOf (sp_law K)) :=
  fn3 (t := fun xc => @t_law K xc) F sc_law (fun ds n Q Y h => by unfold sp_law sp1 at h; obtain ⟨_, rfl, _⟩ := h; rfl) (fun xc cdv A outer s H E hr hg => letI := xc; b_law fx (p__law_box fx) (p__law_caught fx) (p__law_cell fx) (p__law_others fx) (p__law_right fx) (p__law_sorts fx) (p__law_take fx) (p__law_thing fx) ⟨hr, hg⟩) (fun ds n Q Y h => q_law ds n Q Y h)
end
end W
set_option Elab.async false
set_option linter.all false
set_option maxRecDepth 100000
set_option maxHeartbeats 1000000
namespace W
open PySem PySem.Spec PyProof.Rows L2 L3 He TT
local instance xdead0B : XCt := XCt.dead
section
variable {K : PySem.W.Frag}
theorem law_others {c : Str} {e : D} (k : Kx K) (hc : c ∈ cs15) (h : Er K none c e) : m__law_others K e = pure (.lst (cs36.map fun d => .bl (decide (c = d)))) := by
  have hi := k.ib hc
  have one : ∀ d, d ∈ cs14 ++ cs36 → ∀ p cv, cbM (cDer (rIsi3 (pZ K none (.ref (ga K d)) p) cv)) [e, .raw cv] = pure (.bl (decide (c = d))) := fun d hd p cv => isZ h hi (k.one hc hd)
  unfold m__law_others
  simp only [mp_pb, mp_bb, mp_rb, consA_pp, ap2_pp, cl0_n, cl1_n, cl2_n, cl3_n, cl4_n, cl5_n, cl6_n, cl7_n, asB_bl, asI_int, andV, orV, notV, cAnd, cOr, cNot, ifE, chM, eNM_p, toD_lst, toD_dk, Jn, frzM, lcB, dcB, itSeq_lst, itSeqD_lst, itSeqD_tup, itEnum_lst, itEnumS_lst, itEnumS_tup, itTup_tup, itStr_str, itZip_lst, itZipT_tup, itEz_lst, itRev_lst, forK_true, unp1_ok, unp2_ok, unp3_ok, unp4_ok, unp2L_ok, op_addI, L3.op_sub, op_cmp, op_eqI, op_eqS, op_inS, cb_lenL, cb_lenT, cb_lenD, cb_int2, cb_abs, cb_tupL, cb_tupT, cb_intB, cb_boolI, slM_L, slM_T, isDict_dk, asL_lst, isL_lst, revM_lst, revTM_tup, negM_int, augM_pp, isStr_str, isLst_lst, optM_some, tup0, tup1, tup2, tup3, tup4, lst0, lst1, lst2, lst3, lst4, lst5, insE_ok, isInt_int, isInt_bl, isInt_str, isInt_tup, isInt_lst, isInt_non, isInt_dk, isBl_int, isBl_bl, isBl_str, isBl_tup, isBl_lst, isBl_non, isStr_int, isStr_bl, isStr_s, isStr_tup, isStr_lst, isStr_non, isTup_int, isTup_bl, isTup_str, isTup_tup, isTup_lst, isTup_non, dLst_int, dLst_bl, dLst_str, dLst_tup, dLst_lst, dLst_non, ite_mt, ite_mf, if_true, if_false, Bool.false_eq_true, Bool.true_eq_false, Bool.not_true, Bool.not_false, Bool.or_false, Bool.or_true, Bool.false_or, Bool.true_or, Bool.and_true, Bool.and_false, Bool.true_and, Bool.false_and, ↓reduceIte, decide_true, decide_false, isB_non, isBB_non, isO_non, isB_bl, isBB_bl, isO_bl, isB_int, isBB_int, isO_int, isB_str, isBB_str, isO_str, isB_lst, isBB_lst, isO_lst, isB_tup, isBB_tup, isO_tup, isB_dk, isBB_dk, isO_dk, one "NoName" (by decide +kernel), one "NoWords" (by decide +kernel), one "NoSigns" (by decide +kernel), one "NoSign" (by decide +kernel), one "NoWord" (by decide +kernel), one "Beyond" (by decide +kernel), one "Unended" (by decide +kernel), one "NoTerm" (by decide +kernel), one "NoTerms" (by decide +kernel), one "NoLetter" (by decide +kernel), one "NoPairs" (by decide +kernel), one "NoPutting" (by decide +kernel), one "NoWay" (by decide +kernel), one "NoNumber" (by decide +kernel), one "NoTruth" (by decide +kernel), one "NoNote" (by decide +kernel), one "NoList" (by decide +kernel), one "NoAsk" (by decide +kernel), one "NoRule" (by decide +kernel), one "NoRules" (by decide +kernel), one "NoRow" (by decide +kernel), one "NoShelf" (by decide +kernel), one "NoDeed" (by decide +kernel), one "NoText" (by decide +kernel), one "NoLine" (by decide +kernel), one "Unlike" (by decide +kernel), one "Twice" (by decide +kernel), one "TooMany" (by decide +kernel), one "TooGreat" (by decide +kernel), one "NotThere" (by decide +kernel), one "NoSpot" (by decide +kernel), one "NoMore" (by decide +kernel), one "Changed" (by decide +kernel), one "Endless" (by decide +kernel), one "Absent" (by decide +kernel), one "Ended" (by decide +kernel)]
  repeat (rw [op_addLs (by simp only [List.length_append, List.length_cons, List.length_nil]; decide)]; simp only [mp_pb, mp_bb, mp_rb, consA_pp, ap2_pp, cl0_n, cl1_n, cl2_n, cl3_n, cl4_n, cl5_n, cl6_n, cl7_n, asB_bl, asI_int, andV, orV, notV, cAnd, cOr, cNot, ifE, chM, eNM_p, toD_lst, toD_dk, Jn, frzM, lcB, dcB, itSeq_lst, itSeqD_lst, itSeqD_tup, itEnum_lst, itEnumS_lst, itEnumS_tup, itTup_tup, itStr_str, itZip_lst, itZipT_tup, itEz_lst, itRev_lst, forK_true, unp1_ok, unp2_ok, unp3_ok, unp4_ok, unp2L_ok, op_addI, L3.op_sub, op_cmp, op_eqI, op_eqS, op_inS, cb_lenL, cb_lenT, cb_lenD, cb_int2, cb_abs, cb_tupL, cb_tupT, cb_intB, cb_boolI, slM_L, slM_T, isDict_dk, asL_lst, isL_lst, revM_lst, revTM_tup, negM_int, augM_pp, isStr_str, isLst_lst, optM_some, tup0, tup1, tup2, tup3, tup4, lst0, lst1, lst2, lst3, lst4, lst5, insE_ok, isInt_int, isInt_bl, isInt_str, isInt_tup, isInt_lst, isInt_non, isInt_dk, isBl_int, isBl_bl, isBl_str, isBl_tup, isBl_lst, isBl_non, isStr_int, isStr_bl, isStr_s, isStr_tup, isStr_lst, isStr_non, isTup_int, isTup_bl, isTup_str, isTup_tup, isTup_lst, isTup_non, dLst_int, dLst_bl, dLst_str, dLst_tup, dLst_lst, dLst_non, ite_mt, ite_mf, if_true, if_false, Bool.false_eq_true, Bool.true_eq_false, Bool.not_true, Bool.not_false, Bool.or_false, Bool.or_true, Bool.false_or, Bool.true_or, Bool.and_true, Bool.and_false, Bool.true_and, Bool.false_and, ↓reduceIte, decide_true, decide_false, isB_non, isBB_non, isO_non, isB_bl, isBB_bl, isO_bl, isB_int, isBB_int, isO_int, isB_str, isBB_str, isO_str, isB_lst, isBB_lst, isO_lst, isB_tup, isBB_tup, isO_tup, isB_dk, isBB_dk, isO_dk])
  rfl
/-- class, field, text -/
def ms14 : List (Str × Str × Str) := ([("NoOrder", "found", "no order"), ("NoWeights", "found", "no list of weights"), ("NoNames", "found", "no list of all names"), ("NotAdmitted", "found", "a word that breaks the conditions of an order"), ("NoEquations", "found", "no list of equations")] : List (Str × Str × Str)) ++
  ([("NotGround", "found", "a term with letters"), ("NotOrdered", "at", "sides of which neither is greater"), ("NotSame", "at", "sides that are not the same"), ("NoStep", "at", "nothing that can be rewritten"), ("Unfinished", "found", "a completion that is not finished")] : List (Str × Str × Str)) ++
  ([("NotLinear", "found", "a pattern with a letter that stands twice"), ("NoMakers", "found", "no list of makers"), ("NoCompleting", "found", "no completion"), ("NoModel", "found", "no model")] : List (Str × Str × Str))
def exD (K : PySem.W.Frag) (d : D) (p : Str × Str × Str) : D := .exd (ga K p.1) (some p.2.2) [p.2.1] [d]
theorem by_place {d : D} : m__law_by_place K d = pure (.lst (ms14.map (exD K d))) := by
  have e : ∀ C f m, mkXM C f m d = (pure (.exd C (some m) [f] [d]) : MP D) := fun _ _ _ => rfl
  unfold m__law_by_place
  simp only [mp_pb, mp_bb, mp_rb, consA_pp, ap2_pp, cl0_n, cl1_n, cl2_n, cl3_n, cl4_n, cl5_n, cl6_n, cl7_n, asB_bl, asI_int, andV, orV, notV, cAnd, cOr, cNot, ifE, chM, eNM_p, toD_lst, toD_dk, Jn, frzM, lcB, dcB, itSeq_lst, itSeqD_lst, itSeqD_tup, itEnum_lst, itEnumS_lst, itEnumS_tup, itTup_tup, itStr_str, itZip_lst, itZipT_tup, itEz_lst, itRev_lst, forK_true, unp1_ok, unp2_ok, unp3_ok, unp4_ok, unp2L_ok, op_addI, L3.op_sub, op_cmp, op_eqI, op_eqS, op_inS, cb_lenL, cb_lenT, cb_lenD, cb_int2, cb_abs, cb_tupL, cb_tupT, cb_intB, cb_boolI, slM_L, slM_T, isDict_dk, asL_lst, isL_lst, revM_lst, revTM_tup, negM_int, augM_pp, isStr_str, isLst_lst, optM_some, tup0, tup1, tup2, tup3, tup4, lst0, lst1, lst2, lst3, lst4, lst5, insE_ok, isInt_int, isInt_bl, isInt_str, isInt_tup, isInt_lst, isInt_non, isInt_dk, isBl_int, isBl_bl, isBl_str, isBl_tup, isBl_lst, isBl_non, isStr_int, isStr_bl, isStr_s, isStr_tup, isStr_lst, isStr_non, isTup_int, isTup_bl, isTup_str, isTup_tup, isTup_lst, isTup_non, dLst_int, dLst_bl, dLst_str, dLst_tup, dLst_lst, dLst_non, ite_mt, ite_mf, if_true, if_false, Bool.false_eq_true, Bool.true_eq_false, Bool.not_true, Bool.not_false, Bool.or_false, Bool.or_true, Bool.false_or, Bool.true_or, Bool.and_true, Bool.and_false, Bool.true_and, Bool.false_and, ↓reduceIte, decide_true, decide_false, isB_non, isBB_non, isO_non, isB_bl, isBB_bl, isO_bl, isB_int, isBB_int, isO_int, isB_str, isBB_str, isO_str, isB_lst, isBB_lst, isO_lst, isB_tup, isBB_tup, isO_tup, isB_dk, isBB_dk, isO_dk, e]
  repeat (rw [op_addLs (by simp only [List.length_append, List.length_cons, List.length_nil]; decide)]; simp only [mp_pb, mp_bb, mp_rb, consA_pp, ap2_pp, cl0_n, cl1_n, cl2_n, cl3_n, cl4_n, cl5_n, cl6_n, cl7_n, asB_bl, asI_int, andV, orV, notV, cAnd, cOr, cNot, ifE, chM, eNM_p, toD_lst, toD_dk, Jn, frzM, lcB, dcB, itSeq_lst, itSeqD_lst, itSeqD_tup, itEnum_lst, itEnumS_lst, itEnumS_tup, itTup_tup, itStr_str, itZip_lst, itZipT_tup, itEz_lst, itRev_lst, forK_true, unp1_ok, unp2_ok, unp3_ok, unp4_ok, unp2L_ok, op_addI, L3.op_sub, op_cmp, op_eqI, op_eqS, op_inS, cb_lenL, cb_lenT, cb_lenD, cb_int2, cb_abs, cb_tupL, cb_tupT, cb_intB, cb_boolI, slM_L, slM_T, isDict_dk, asL_lst, isL_lst, revM_lst, revTM_tup, negM_int, augM_pp, isStr_str, isLst_lst, optM_some, tup0, tup1, tup2, tup3, tup4, lst0, lst1, lst2, lst3, lst4, lst5, insE_ok, isInt_int, isInt_bl, isInt_str, isInt_tup, isInt_lst, isInt_non, isInt_dk, isBl_int, isBl_bl, isBl_str, isBl_tup, isBl_lst, isBl_non, isStr_int, isStr_bl, isStr_s, isStr_tup, isStr_lst, isStr_non, isTup_int, isTup_bl, isTup_str, isTup_tup, isTup_lst, isTup_non, dLst_int, dLst_bl, dLst_str, dLst_tup, dLst_lst, dLst_non, ite_mt, ite_mf, if_true, if_false, Bool.false_eq_true, Bool.true_eq_false, Bool.not_true, Bool.not_false, Bool.or_false, Bool.or_true, Bool.false_or, Bool.true_or, Bool.and_true, Bool.and_false, Bool.true_and, Bool.false_and, ↓reduceIte, decide_true, decide_false, isB_non, isBB_non, isO_non, isB_bl, isBB_bl, isO_bl, isB_int, isBB_int, isO_int, isB_str, isBB_str, isO_str, isB_lst, isBB_lst, isO_lst, isB_tup, isBB_tup, isO_tup, isB_dk, isBB_dk, isO_dk])
  rfl
theorem by_name {d : D} : m__law_by_name K d = pure (.lst (ms14.map (exD K d))) := by
  have e : ∀ C f m, mkXM C f m d = (pure (.exd C (some m) [f] [d]) : MP D) := fun _ _ _ => rfl
  unfold m__law_by_name
  simp only [mp_pb, mp_bb, mp_rb, consA_pp, ap2_pp, cl0_n, cl1_n, cl2_n, cl3_n, cl4_n, cl5_n, cl6_n, cl7_n, asB_bl, asI_int, andV, orV, notV, cAnd, cOr, cNot, ifE, chM, eNM_p, toD_lst, toD_dk, Jn, frzM, lcB, dcB, itSeq_lst, itSeqD_lst, itSeqD_tup, itEnum_lst, itEnumS_lst, itEnumS_tup, itTup_tup, itStr_str, itZip_lst, itZipT_tup, itEz_lst, itRev_lst, forK_true, unp1_ok, unp2_ok, unp3_ok, unp4_ok, unp2L_ok, op_addI, L3.op_sub, op_cmp, op_eqI, op_eqS, op_inS, cb_lenL, cb_lenT, cb_lenD, cb_int2, cb_abs, cb_tupL, cb_tupT, cb_intB, cb_boolI, slM_L, slM_T, isDict_dk, asL_lst, isL_lst, revM_lst, revTM_tup, negM_int, augM_pp, isStr_str, isLst_lst, optM_some, tup0, tup1, tup2, tup3, tup4, lst0, lst1, lst2, lst3, lst4, lst5, insE_ok, isInt_int, isInt_bl, isInt_str, isInt_tup, isInt_lst, isInt_non, isInt_dk, isBl_int, isBl_bl, isBl_str, isBl_tup, isBl_lst, isBl_non, isStr_int, isStr_bl, isStr_s, isStr_tup, isStr_lst, isStr_non, isTup_int, isTup_bl, isTup_str, isTup_tup, isTup_lst, isTup_non, dLst_int, dLst_bl, dLst_str, dLst_tup, dLst_lst, dLst_non, ite_mt, ite_mf, if_true, if_false, Bool.false_eq_true, Bool.true_eq_false, Bool.not_true, Bool.not_false, Bool.or_false, Bool.or_true, Bool.false_or, Bool.true_or, Bool.and_true, Bool.and_false, Bool.true_and, Bool.false_and, ↓reduceIte, decide_true, decide_false, isB_non, isBB_non, isO_non, isB_bl, isBB_bl, isO_bl, isB_int, isBB_int, isO_int, isB_str, isBB_str, isO_str, isB_lst, isBB_lst, isO_lst, isB_tup, isBB_tup, isO_tup, isB_dk, isBB_dk, isO_dk, e]
  repeat (rw [op_addLs (by simp only [List.length_append, List.length_cons, List.length_nil]; decide)]; simp only [mp_pb, mp_bb, mp_rb, consA_pp, ap2_pp, cl0_n, cl1_n, cl2_n, cl3_n, cl4_n, cl5_n, cl6_n, cl7_n, asB_bl, asI_int, andV, orV, notV, cAnd, cOr, cNot, ifE, chM, eNM_p, toD_lst, toD_dk, Jn, frzM, lcB, dcB, itSeq_lst, itSeqD_lst, itSeqD_tup, itEnum_lst, itEnumS_lst, itEnumS_tup, itTup_tup, itStr_str, itZip_lst, itZipT_tup, itEz_lst, itRev_lst, forK_true, unp1_ok, unp2_ok, unp3_ok, unp4_ok, unp2L_ok, op_addI, L3.op_sub, op_cmp, op_eqI, op_eqS, op_inS, cb_lenL, cb_lenT, cb_lenD, cb_int2, cb_abs, cb_tupL, cb_tupT, cb_intB, cb_boolI, slM_L, slM_T, isDict_dk, asL_lst, isL_lst, revM_lst, revTM_tup, negM_int, augM_pp, isStr_str, isLst_lst, optM_some, tup0, tup1, tup2, tup3, tup4, lst0, lst1, lst2, lst3, lst4, lst5, insE_ok, isInt_int, isInt_bl, isInt_str, isInt_tup, isInt_lst, isInt_non, isInt_dk, isBl_int, isBl_bl, isBl_str, isBl_tup, isBl_lst, isBl_non, isStr_int, isStr_bl, isStr_s, isStr_tup, isStr_lst, isStr_non, isTup_int, isTup_bl, isTup_str, isTup_tup, isTup_lst, isTup_non, dLst_int, dLst_bl, dLst_str, dLst_tup, dLst_lst, dLst_non, ite_mt, ite_mf, if_true, if_false, Bool.false_eq_true, Bool.true_eq_false, Bool.not_true, Bool.not_false, Bool.or_false, Bool.or_true, Bool.false_or, Bool.true_or, Bool.and_true, Bool.and_false, Bool.true_and, Bool.false_and, ↓reduceIte, decide_true, decide_false, isB_non, isBB_non, isO_non, isB_bl, isBB_bl, isO_bl, isB_int, isBB_int, isO_int, isB_str, isBB_str, isO_str, isB_lst, isBB_lst, isO_lst, isB_tup, isBB_tup, isO_tup, isB_dk, isBB_dk, isO_dk])
  rfl
theorem xfZM_ok {z : Zx} {Cs : List Addr} {f : Str} {d v : D} (h : XfZ z Cs f d v) : xfZM z Cs f d = pure v := MP.ext fun m Q X => ⟨fun ⟨v', h', q⟩ => by
  have e : v' = v := by
    rcases h with ⟨C, mm, ns, ds, ed, _, el⟩ | ⟨a, C, dx, ns, ds, ed, _, _, el⟩ <;> rcases h' with ⟨C', mm', ns', ds', ed', _, el'⟩ | ⟨a', C', dx', ns', ds', ed', _, _, el'⟩ <;> rw [ed] at ed' <;> cases ed' <;> rw [el] at el' <;> cases el' <;> rfl
  rw [← e]
  exact q, fun q => ⟨v, h, q⟩⟩
theorem op_inT {x : D} {ds : List D} (h1 : x.isFlat = true) (h2 : ds.all D.isFlat = true) : opM (rDer (rInA3 false)) x (.tup ds) = pure (.bl (ds.any fun z => D.eqv z x)) := MP.ext fun m Q X => by
  have e : m.der x = x := by cases x <;> first | rfl | cases h1
  show rInA3 false (m.der x) (m.der (.tup ds)) m Q ↔ Q _ m
  rw [e]
  exact ⟨fun q => q.2.2, fun q => ⟨h1, h2, q⟩⟩
def inT (i : Nat) : Bool := [D.int 6, .int 7, .int 8].any fun z => D.eqv z (.int i)
def ats : List Str := ["NoSign", "Beyond", "NotOrdered", "NotSame", "NoStep"]
def fds : List Str := (["NoWords", "NoNumber", "NoSigns", "NoTerm", "Unlike", "NoOrder", "NoWeights", "NoNames"] : List Str) ++ (["NotAdmitted", "NoEquations", "NotGround", "Unfinished", "NotLinear", "NoMakers", "NoCompleting", "NoModel"] : List Str)
theorem ats_map : xc_at K = ats.map (ga K) := rfl
theorem fds_map : xc_found K = fds.map (ga K) := rfl
/-- the error with this value, of the class c with the field f -/
inductive Ef (K : PySem.W.Frag) (z : Zx) (c f : Str) (d : D) : D → Prop
  | x (m : Option Str) : Ef K z c f d (.exd (ga K c) m [f] [d])
  | n (a dx : Addr) (h : z = some (a, ga K c, some dx)) : Ef K z c f d (.exn a (ga K c) dx [f] [d])
theorem Ef.er {z : Zx} {c f : Str} {d e : D} (h : Ef K z c f d e) : Er K z c e := by
  cases h with
  | x m => exact .x m _ _
  | n a dx h => exact .n a dx _ _ h
theorem Ef.xf {z : Zx} {c f : Str} {d e : D} {Cs : List Addr} (h : Ef K z c f d e) (hc : ga K c ∈ Cs) : XfZ z Cs f e d := by
  have g : fldD f [f] [d] = some d := by unfold fldD; rw [if_pos rfl]
  cases h with
  | x m => exact .inl ⟨_, _, _, _, rfl, hc, g⟩
  | n a dx h => exact .inr ⟨_, _, _, _, _, rfl, h, hc, g⟩
theorem law_field {z : Zx} {c f : Str} {d e : D} {i : Nat} (h : Ef K z c f d e) (hi : (f = "at" ∧ inT i = true ∧ c ∈ ats) ∨ (f = "found" ∧ inT i = false ∧ c ∈ fds)) : m__law_field z K e (.int i) = pure d := by
  have t : opM (rDer (rInA3 false)) (.int i) (.tup [.int 6, .int 7, .int 8]) = pure (.bl (inT i)) := op_inT rfl rfl
  unfold m__law_field
  simp only [mp_pb, mp_bb, mp_rb, consA_pp, ap2_pp, cl0_n, cl1_n, cl2_n, cl3_n, cl4_n, cl5_n, cl6_n, cl7_n, asB_bl, asI_int, andV, orV, notV, cAnd, cOr, cNot, ifE, chM, eNM_p, toD_lst, toD_dk, Jn, frzM, lcB, dcB, itSeq_lst, itSeqD_lst, itSeqD_tup, itEnum_lst, itEnumS_lst, itEnumS_tup, itTup_tup, itStr_str, itZip_lst, itZipT_tup, itEz_lst, itRev_lst, forK_true, unp1_ok, unp2_ok, unp3_ok, unp4_ok, unp2L_ok, op_addI, L3.op_sub, op_cmp, op_eqI, op_eqS, op_inS, cb_lenL, cb_lenT, cb_lenD, cb_int2, cb_abs, cb_tupL, cb_tupT, cb_intB, cb_boolI, slM_L, slM_T, isDict_dk, asL_lst, isL_lst, revM_lst, revTM_tup, negM_int, augM_pp, isStr_str, isLst_lst, optM_some, tup0, tup1, tup2, tup3, tup4, lst0, lst1, lst2, lst3, lst4, lst5, insE_ok, isInt_int, isInt_bl, isInt_str, isInt_tup, isInt_lst, isInt_non, isInt_dk, isBl_int, isBl_bl, isBl_str, isBl_tup, isBl_lst, isBl_non, isStr_int, isStr_bl, isStr_s, isStr_tup, isStr_lst, isStr_non, isTup_int, isTup_bl, isTup_str, isTup_tup, isTup_lst, isTup_non, dLst_int, dLst_bl, dLst_str, dLst_tup, dLst_lst, dLst_non, ite_mt, ite_mf, if_true, if_false, Bool.false_eq_true, Bool.true_eq_false, Bool.not_true, Bool.not_false, Bool.or_false, Bool.or_true, Bool.false_or, Bool.true_or, Bool.and_true, Bool.and_false, Bool.true_and, Bool.false_and, ↓reduceIte, decide_true, decide_false, isB_non, isBB_non, isO_non, isB_bl, isBB_bl, isO_bl, isB_int, isBB_int, isO_int, isB_str, isBB_str, isO_str, isB_lst, isBB_lst, isO_lst, isB_tup, isBB_tup, isO_tup, isB_dk, isBB_dk, isO_dk, t]
  rcases hi with ⟨rfl, h2, h3⟩ | ⟨rfl, h2, h3⟩
  · rw [h2]
    simp only [mp_pb, mp_bb, mp_rb, consA_pp, ap2_pp, cl0_n, cl1_n, cl2_n, cl3_n, cl4_n, cl5_n, cl6_n, cl7_n, asB_bl, asI_int, andV, orV, notV, cAnd, cOr, cNot, ifE, chM, eNM_p, toD_lst, toD_dk, Jn, frzM, lcB, dcB, itSeq_lst, itSeqD_lst, itSeqD_tup, itEnum_lst, itEnumS_lst, itEnumS_tup, itTup_tup, itStr_str, itZip_lst, itZipT_tup, itEz_lst, itRev_lst, forK_true, unp1_ok, unp2_ok, unp3_ok, unp4_ok, unp2L_ok, op_addI, L3.op_sub, op_cmp, op_eqI, op_eqS, op_inS, cb_lenL, cb_lenT, cb_lenD, cb_int2, cb_abs, cb_tupL, cb_tupT, cb_intB, cb_boolI, slM_L, slM_T, isDict_dk, asL_lst, isL_lst, revM_lst, revTM_tup, negM_int, augM_pp, isStr_str, isLst_lst, optM_some, tup0, tup1, tup2, tup3, tup4, lst0, lst1, lst2, lst3, lst4, lst5, insE_ok, isInt_int, isInt_bl, isInt_str, isInt_tup, isInt_lst, isInt_non, isInt_dk, isBl_int, isBl_bl, isBl_str, isBl_tup, isBl_lst, isBl_non, isStr_int, isStr_bl, isStr_s, isStr_tup, isStr_lst, isStr_non, isTup_int, isTup_bl, isTup_str, isTup_tup, isTup_lst, isTup_non, dLst_int, dLst_bl, dLst_str, dLst_tup, dLst_lst, dLst_non, ite_mt, ite_mf, if_true, if_false, Bool.false_eq_true, Bool.true_eq_false, Bool.not_true, Bool.not_false, Bool.or_false, Bool.or_true, Bool.false_or, Bool.true_or, Bool.and_true, Bool.and_false, Bool.true_and, Bool.false_and, ↓reduceIte, decide_true, decide_false, isB_non, isBB_non, isO_non, isB_bl, isBB_bl, isO_bl, isB_int, isBB_int, isO_int, isB_str, isBB_str, isO_str, isB_lst, isBB_lst, isO_lst, isB_tup, isBB_tup, isO_tup, isB_dk, isBB_dk, isO_dk]
    exact xfZM_ok (h.xf (by rw [ats_map]; exact List.mem_map_of_mem h3))
  · rw [h2]
    simp only [mp_pb, mp_bb, mp_rb, consA_pp, ap2_pp, cl0_n, cl1_n, cl2_n, cl3_n, cl4_n, cl5_n, cl6_n, cl7_n, asB_bl, asI_int, andV, orV, notV, cAnd, cOr, cNot, ifE, chM, eNM_p, toD_lst, toD_dk, Jn, frzM, lcB, dcB, itSeq_lst, itSeqD_lst, itSeqD_tup, itEnum_lst, itEnumS_lst, itEnumS_tup, itTup_tup, itStr_str, itZip_lst, itZipT_tup, itEz_lst, itRev_lst, forK_true, unp1_ok, unp2_ok, unp3_ok, unp4_ok, unp2L_ok, op_addI, L3.op_sub, op_cmp, op_eqI, op_eqS, op_inS, cb_lenL, cb_lenT, cb_lenD, cb_int2, cb_abs, cb_tupL, cb_tupT, cb_intB, cb_boolI, slM_L, slM_T, isDict_dk, asL_lst, isL_lst, revM_lst, revTM_tup, negM_int, augM_pp, isStr_str, isLst_lst, optM_some, tup0, tup1, tup2, tup3, tup4, lst0, lst1, lst2, lst3, lst4, lst5, insE_ok, isInt_int, isInt_bl, isInt_str, isInt_tup, isInt_lst, isInt_non, isInt_dk, isBl_int, isBl_bl, isBl_str, isBl_tup, isBl_lst, isBl_non, isStr_int, isStr_bl, isStr_s, isStr_tup, isStr_lst, isStr_non, isTup_int, isTup_bl, isTup_str, isTup_tup, isTup_lst, isTup_non, dLst_int, dLst_bl, dLst_str, dLst_tup, dLst_lst, dLst_non, ite_mt, ite_mf, if_true, if_false, Bool.false_eq_true, Bool.true_eq_false, Bool.not_true, Bool.not_false, Bool.or_false, Bool.or_true, Bool.false_or, Bool.true_or, Bool.and_true, Bool.and_false, Bool.true_and, Bool.false_and, ↓reduceIte, decide_true, decide_false, isB_non, isBB_non, isO_non, isB_bl, isBB_bl, isO_bl, isB_int, isBB_int, isO_int, isB_str, isBB_str, isO_str, isB_lst, isBB_lst, isO_lst, isB_tup, isBB_tup, isO_tup, isB_dk, isBB_dk, isO_dk]
    exact xfZM_ok (h.xf (by rw [fds_map]; exact List.mem_map_of_mem h3))
def okAt (i : Nat) : Bool := match ms14[i]?, cs14[i]? with
  | some p, some c => decide (p.1 = c) && ((decide (p.2.1 = "at") && (inT i && decide (p.1 ∈ ats))) || (decide (p.2.1 = "found") && (!inT i && decide (p.1 ∈ fds)))) && decide (c ∈ cs15) && decide (c ∉ cs36) &&
    decide ((cs14.map fun d => decide (c = d)) = (List.range 14).map fun k => decide (k = i))
  | _, _ => false
theorem okAt_all : ∀ i < 14, okAt i = true := by decide +kernel
theorem at14 {i : Nat} (h : i < 14) : ∃ c f m, ms14[i]? = some (c, f, m) ∧ c ∈ cs14 ∧ c ∈ cs15 ∧ c ∉ cs36 ∧ ((f = "at" ∧ inT i = true ∧ c ∈ ats) ∨ (f = "found" ∧ inT i = false ∧ c ∈ fds)) ∧ (cs14.map fun d => decide (c = d)) = (List.range 14).map fun k => decide (k = i) := by
  have z := okAt_all i h
  unfold okAt at z
  cases e1 : ms14[i]? with
  | none => rw [e1] at z; cases z
  | some p =>
    cases e2 : cs14[i]? with
    | none => rw [e1, e2] at z; cases z
    | some c =>
      rw [e1, e2] at z
      simp only [Bool.and_eq_true, Bool.or_eq_true, decide_eq_true_eq, Bool.not_eq_true'] at z
      obtain ⟨⟨⟨⟨z1, z2⟩, z3⟩, z4⟩, z5⟩ := z
      obtain ⟨c', f, m⟩ := p
      subst z1
      exact ⟨c', f, m, rfl, List.mem_of_getElem? e2, z3, z4, z2, z5⟩
end
end W
set_option Elab.async false
set_option linter.all false
set_option maxRecDepth 100000
set_option maxHeartbeats 1000000
namespace W
open PySem PySem.Spec PyProof.Rows L2 L3 He TT
local instance xdead0C : XCt := XCt.dead
section
variable {α β : Type}
theorem lcM_bb {α : Type} {x : MP α} {f : α → MP It5} {b : D → MP (Option D)} : lcM (x >>= f) b = (x >>= fun a => lcM (f a) b) := rfl
/-- a computation that draws c times at most, and gives what is P -/
def Csle (m m' : Mem) : Prop := ∀ (i : Nat) (o : O), m.cs[i]? = some (some o) → m'.cs[i]? = some (some o)
theorem Csle.refl (m : Mem) : Csle m m := fun _ _ e => e
theorem Csle.trans {a b c : Mem} (h : Csle a b) (k : Csle b c) : Csle a c := fun i o e => k i o (h i o e)
def Dr (c : Nat) (x : MP α) (P : α → Prop) : Prop := ∀ (m : Mem) (Q : α → Mem → Prop) (X : Exn3 → Mem → Prop), m.n + c ≤ 2 ^ 40 → (∀ a m', P a → m'.n ≤ m.n + c → Csle m m' → Q a m') → x.run m Q X
theorem dr_p {c : Nat} {a : α} {P : α → Prop} (h : P a) : Dr c (pure a) P := fun m Q X _ q => q a m h (Nat.le_add_right _ _) (.refl m)
theorem dr_b {c1 c : Nat} {x : MP α} {f : α → MP β} {P : α → Prop} {P' : β → Prop} (h : Dr c1 x P) (k : ∀ a, P a → Dr (c - c1) (f a) P') (hc : c1 ≤ c := by omega) : Dr c (x >>= f) P' := fun m Q X hm q => h m _ X (by omega) fun a m1 pa h1 k1 => k a pa m1 Q X (by omega) fun b m2 pb h2 k2 => q b m2 pb (by omega) (k1.trans k2)
theorem dr_ix0 : Dr 0 (boxIxM 0 .box) (fun d => ∃ a : Int, 0 ≤ a ∧ d = .int a) := fun m Q X hm q => ⟨rfl, fun a j k b => q _ _ ⟨a, b.1, rfl⟩ (by omega) (.refl m)⟩
theorem dr_ix1 : Dr 0 (boxIxM 1 .box) (fun d => ∃ a : Int, 0 ≤ a ∧ a < 2147483648 ∧ d = .int a) := fun m Q X hm q => ⟨rfl, fun a j k b => q _ _ ⟨j, b.2.1, b.2.2.1, rfl⟩ (by omega) (.refl m)⟩
theorem dr_ix2 : Dr 0 (boxIxM 2 .box) (fun d => ∃ a : Int, 0 ≤ a ∧ a ≤ 2 ^ 40 ∧ d = .int a) := fun m Q X hm q => ⟨rfl, fun a j k b => q _ _ ⟨k, b.2.2.2.1, by have := b.2.2.2.2; omega, rfl⟩ (by omega) (.refl m)⟩
theorem dr_set0 {x : Int} (h : 0 ≤ x) : Dr 0 (boxSetM 0 (.int x)) (fun _ => True) := fun m Q X hm q => ⟨x, m.n, rfl, Nat.le_refl _, fun a j k b => ⟨h, b.2⟩, q () _ trivial (Nat.le_refl _) fun _ _ e => e⟩
theorem dr_inc : Dr 1 (boxIxM 2 .box >>= fun a => opM (rDer rAdd3) a (.int 1) >>= fun d => boxSetM 2 d) (fun _ => True) := fun m Q X hm q => ⟨rfl, fun a j k b => ⟨_, m.n + 1, rfl, Nat.le_succ _, fun a' j' k' b' => ⟨b'.1, b'.2.1, b'.2.2.1, by show 0 ≤ k + 1; have := b.2.2.2.1; omega, by show k + 1 ≤ ((m.n + 1 : Nat) : Int); have := b.2.2.2.2; omega⟩, q () _ trivial (Nat.le_refl _) fun _ _ e => e⟩⟩
theorem dr_incB {c : Nat} {f : Unit → MP β} {P : β → Prop} (h : ∀ u, Dr (c - 1) (f u) P) (hc : 1 ≤ c := by omega) : Dr c (boxIxM 2 .box >>= fun a => opM (rDer rAdd3) a (.int 1) >>= fun d => boxSetM 2 d >>= f) P := by
  have := dr_b (c := c) dr_inc (fun u _ => h u) hc
  exact this
variable {K : PySem.W.Frag}
theorem pow_ok {i j : Int} (h0 : 0 ≤ i) (h1 : i < 2 ^ 60) (h2 : 0 ≤ j) (h3 : j ≤ 1000) : CPow i j := ⟨h2, by omega, by omega⟩
theorem dr_take (many : Nat) {i : Int} (e : i = many := by rfl) (h0 : 0 < many := by omega) (hm : many < 2 ^ 64 := by omega) : Dr 1 (m__law_take K .box (.int i)) (fun d => ∃ k : Nat, k < many ∧ d = .int k) := by
  subst e
  have qq : ∀ x : Int, ∃ k : Nat, k < many ∧ (D.int (x % many)) = .int k := fun x => by
    have h1 := Int.emod_nonneg x (show (many : Int) ≠ 0 by omega)
    have h2 := Int.emod_lt_of_pos x (show (0 : Int) < many by omega)
    exact ⟨(x % many).toNat, by omega, by rw [Int.toNat_of_nonneg h1]⟩
  unfold m__law_take
  have ib : isBox .box = (pure () : MP Unit) := chk_iff rfl
  simp only [mp_pb, mp_bb, mp_rb, consA_pp, ap2_pp, cl0_n, cl1_n, cl2_n, cl3_n, cl4_n, cl5_n, cl6_n, cl7_n, asB_bl, asI_int, andV, orV, notV, cAnd, cOr, cNot, ifE, chM, eNM_p, toD_lst, toD_dk, Jn, frzM, lcB, dcB, itSeq_lst, itSeqD_lst, itSeqD_tup, itEnum_lst, itEnumS_lst, itEnumS_tup, itTup_tup, itStr_str, itZip_lst, itZipT_tup, itEz_lst, itRev_lst, forK_true, unp1_ok, unp2_ok, unp3_ok, unp4_ok, unp2L_ok, op_addI, L3.op_sub, op_cmp, op_eqI, op_eqS, op_inS, cb_lenL, cb_lenT, cb_lenD, cb_int2, cb_abs, cb_tupL, cb_tupT, cb_intB, cb_boolI, slM_L, slM_T, isDict_dk, asL_lst, isL_lst, revM_lst, revTM_tup, negM_int, augM_pp, isStr_str, isLst_lst, optM_some, tup0, tup1, tup2, tup3, tup4, lst0, lst1, lst2, lst3, lst4, lst5, insE_ok, isInt_int, isInt_bl, isInt_str, isInt_tup, isInt_lst, isInt_non, isInt_dk, isBl_int, isBl_bl, isBl_str, isBl_tup, isBl_lst, isBl_non, isStr_int, isStr_bl, isStr_s, isStr_tup, isStr_lst, isStr_non, isTup_int, isTup_bl, isTup_str, isTup_tup, isTup_lst, isTup_non, dLst_int, dLst_bl, dLst_str, dLst_tup, dLst_lst, dLst_non, ite_mt, ite_mf, if_true, if_false, Bool.false_eq_true, Bool.true_eq_false, Bool.not_true, Bool.not_false, Bool.or_false, Bool.or_true, Bool.false_or, Bool.true_or, Bool.and_true, Bool.and_false, Bool.true_and, Bool.false_and, ↓reduceIte, decide_true, decide_false, isB_non, isBB_non, isO_non, isB_bl, isBB_bl, isO_bl, isB_int, isBB_int, isO_int, isB_str, isBB_str, isO_str, isB_lst, isBB_lst, isO_lst, isB_tup, isBB_tup, isO_tup, isB_dk, isBB_dk, isO_dk, ib, ap2]
  refine dr_b dr_ix0 (fun _ z => ?_)
  obtain ⟨a, ha, rfl⟩ := z
  simp only [mp_pb, mp_bb, mp_rb, consA_pp, ap2_pp, cl0_n, cl1_n, cl2_n, cl3_n, cl4_n, cl5_n, cl6_n, cl7_n, asB_bl, asI_int, andV, orV, notV, cAnd, cOr, cNot, ifE, chM, eNM_p, toD_lst, toD_dk, Jn, frzM, lcB, dcB, itSeq_lst, itSeqD_lst, itSeqD_tup, itEnum_lst, itEnumS_lst, itEnumS_tup, itTup_tup, itStr_str, itZip_lst, itZipT_tup, itEz_lst, itRev_lst, forK_true, unp1_ok, unp2_ok, unp3_ok, unp4_ok, unp2L_ok, op_addI, L3.op_sub, op_cmp, op_eqI, op_eqS, op_inS, cb_lenL, cb_lenT, cb_lenD, cb_int2, cb_abs, cb_tupL, cb_tupT, cb_intB, cb_boolI, slM_L, slM_T, isDict_dk, asL_lst, isL_lst, revM_lst, revTM_tup, negM_int, augM_pp, isStr_str, isLst_lst, optM_some, tup0, tup1, tup2, tup3, tup4, lst0, lst1, lst2, lst3, lst4, lst5, insE_ok, isInt_int, isInt_bl, isInt_str, isInt_tup, isInt_lst, isInt_non, isInt_dk, isBl_int, isBl_bl, isBl_str, isBl_tup, isBl_lst, isBl_non, isStr_int, isStr_bl, isStr_s, isStr_tup, isStr_lst, isStr_non, isTup_int, isTup_bl, isTup_str, isTup_tup, isTup_lst, isTup_non, dLst_int, dLst_bl, dLst_str, dLst_tup, dLst_lst, dLst_non, ite_mt, ite_mf, if_true, if_false, Bool.false_eq_true, Bool.true_eq_false, Bool.not_true, Bool.not_false, Bool.or_false, Bool.or_true, Bool.false_or, Bool.true_or, Bool.and_true, Bool.and_false, Bool.true_and, Bool.false_and, ↓reduceIte, decide_true, decide_false, isB_non, isBB_non, isO_non, isB_bl, isBB_bl, isO_bl, isB_int, isBB_int, isO_int, isB_str, isBB_str, isO_str, isB_lst, isBB_lst, isO_lst, isB_tup, isBB_tup, isO_tup, isB_dk, isBB_dk, isO_dk]
  by_cases h : (0 : Int) < a
  · rw [decide_eq_true h]
    simp only [mp_pb, mp_bb, mp_rb, consA_pp, ap2_pp, cl0_n, cl1_n, cl2_n, cl3_n, cl4_n, cl5_n, cl6_n, cl7_n, asB_bl, asI_int, andV, orV, notV, cAnd, cOr, cNot, ifE, chM, eNM_p, toD_lst, toD_dk, Jn, frzM, lcB, dcB, itSeq_lst, itSeqD_lst, itSeqD_tup, itEnum_lst, itEnumS_lst, itEnumS_tup, itTup_tup, itStr_str, itZip_lst, itZipT_tup, itEz_lst, itRev_lst, forK_true, unp1_ok, unp2_ok, unp3_ok, unp4_ok, unp2L_ok, op_addI, L3.op_sub, op_cmp, op_eqI, op_eqS, op_inS, cb_lenL, cb_lenT, cb_lenD, cb_int2, cb_abs, cb_tupL, cb_tupT, cb_intB, cb_boolI, slM_L, slM_T, isDict_dk, asL_lst, isL_lst, revM_lst, revTM_tup, negM_int, augM_pp, isStr_str, isLst_lst, optM_some, tup0, tup1, tup2, tup3, tup4, lst0, lst1, lst2, lst3, lst4, lst5, insE_ok, isInt_int, isInt_bl, isInt_str, isInt_tup, isInt_lst, isInt_non, isInt_dk, isBl_int, isBl_bl, isBl_str, isBl_tup, isBl_lst, isBl_non, isStr_int, isStr_bl, isStr_s, isStr_tup, isStr_lst, isStr_non, isTup_int, isTup_bl, isTup_str, isTup_tup, isTup_lst, isTup_non, dLst_int, dLst_bl, dLst_str, dLst_tup, dLst_lst, dLst_non, ite_mt, ite_mf, if_true, if_false, Bool.false_eq_true, Bool.true_eq_false, Bool.not_true, Bool.not_false, Bool.or_false, Bool.or_true, Bool.false_or, Bool.true_or, Bool.and_true, Bool.and_false, Bool.true_and, Bool.false_and, ↓reduceIte, decide_true, decide_false, isB_non, isBB_non, isO_non, isB_bl, isBB_bl, isO_bl, isB_int, isBB_int, isO_int, isB_str, isBB_str, isO_str, isB_lst, isBB_lst, isO_lst, isB_tup, isBB_tup, isO_tup, isB_dk, isBB_dk, isO_dk]
    refine dr_b dr_ix0 (fun _ z => ?_)
    obtain ⟨b, hb, rfl⟩ := z
    simp only [mp_pb, mp_bb, mp_rb, consA_pp, ap2_pp, cl0_n, cl1_n, cl2_n, cl3_n, cl4_n, cl5_n, cl6_n, cl7_n, asB_bl, asI_int, andV, orV, notV, cAnd, cOr, cNot, ifE, chM, eNM_p, toD_lst, toD_dk, Jn, frzM, lcB, dcB, itSeq_lst, itSeqD_lst, itSeqD_tup, itEnum_lst, itEnumS_lst, itEnumS_tup, itTup_tup, itStr_str, itZip_lst, itZipT_tup, itEz_lst, itRev_lst, forK_true, unp1_ok, unp2_ok, unp3_ok, unp4_ok, unp2L_ok, op_addI, L3.op_sub, op_cmp, op_eqI, op_eqS, op_inS, cb_lenL, cb_lenT, cb_lenD, cb_int2, cb_abs, cb_tupL, cb_tupT, cb_intB, cb_boolI, slM_L, slM_T, isDict_dk, asL_lst, isL_lst, revM_lst, revTM_tup, negM_int, augM_pp, isStr_str, isLst_lst, optM_some, tup0, tup1, tup2, tup3, tup4, lst0, lst1, lst2, lst3, lst4, lst5, insE_ok, isInt_int, isInt_bl, isInt_str, isInt_tup, isInt_lst, isInt_non, isInt_dk, isBl_int, isBl_bl, isBl_str, isBl_tup, isBl_lst, isBl_non, isStr_int, isStr_bl, isStr_s, isStr_tup, isStr_lst, isStr_non, isTup_int, isTup_bl, isTup_str, isTup_tup, isTup_lst, isTup_non, dLst_int, dLst_bl, dLst_str, dLst_tup, dLst_lst, dLst_non, ite_mt, ite_mf, if_true, if_false, Bool.false_eq_true, Bool.true_eq_false, Bool.not_true, Bool.not_false, Bool.or_false, Bool.or_true, Bool.false_or, Bool.true_or, Bool.and_true, Bool.and_false, Bool.true_and, Bool.false_and, ↓reduceIte, decide_true, decide_false, isB_non, isBB_non, isO_non, isB_bl, isBB_bl, isO_bl, isB_int, isBB_int, isO_int, isB_str, isBB_str, isO_str, isB_lst, isBB_lst, isO_lst, isB_tup, isBB_tup, isO_tup, isB_dk, isBB_dk, isO_dk, op_mod (i := b) (show (0 : Int) < many by omega)]
    refine dr_b dr_ix0 (fun _ z => ?_)
    obtain ⟨c, hc, rfl⟩ := z
    simp only [mp_pb, mp_bb, mp_rb, consA_pp, ap2_pp, cl0_n, cl1_n, cl2_n, cl3_n, cl4_n, cl5_n, cl6_n, cl7_n, asB_bl, asI_int, andV, orV, notV, cAnd, cOr, cNot, ifE, chM, eNM_p, toD_lst, toD_dk, Jn, frzM, lcB, dcB, itSeq_lst, itSeqD_lst, itSeqD_tup, itEnum_lst, itEnumS_lst, itEnumS_tup, itTup_tup, itStr_str, itZip_lst, itZipT_tup, itEz_lst, itRev_lst, forK_true, unp1_ok, unp2_ok, unp3_ok, unp4_ok, unp2L_ok, op_addI, L3.op_sub, op_cmp, op_eqI, op_eqS, op_inS, cb_lenL, cb_lenT, cb_lenD, cb_int2, cb_abs, cb_tupL, cb_tupT, cb_intB, cb_boolI, slM_L, slM_T, isDict_dk, asL_lst, isL_lst, revM_lst, revTM_tup, negM_int, augM_pp, isStr_str, isLst_lst, optM_some, tup0, tup1, tup2, tup3, tup4, lst0, lst1, lst2, lst3, lst4, lst5, insE_ok, isInt_int, isInt_bl, isInt_str, isInt_tup, isInt_lst, isInt_non, isInt_dk, isBl_int, isBl_bl, isBl_str, isBl_tup, isBl_lst, isBl_non, isStr_int, isStr_bl, isStr_s, isStr_tup, isStr_lst, isStr_non, isTup_int, isTup_bl, isTup_str, isTup_tup, isTup_lst, isTup_non, dLst_int, dLst_bl, dLst_str, dLst_tup, dLst_lst, dLst_non, ite_mt, ite_mf, if_true, if_false, Bool.false_eq_true, Bool.true_eq_false, Bool.not_true, Bool.not_false, Bool.or_false, Bool.or_true, Bool.false_or, Bool.true_or, Bool.and_true, Bool.and_false, Bool.true_and, Bool.false_and, ↓reduceIte, decide_true, decide_false, isB_non, isBB_non, isO_non, isB_bl, isBB_bl, isO_bl, isB_int, isBB_int, isO_int, isB_str, isBB_str, isO_str, isB_lst, isBB_lst, isO_lst, isB_tup, isBB_tup, isO_tup, isB_dk, isBB_dk, isO_dk, op_div (i := c) (show (0 : Int) < many ∧ (many : Int).natAbs < 2 ^ 128 by omega)]
    exact dr_b (dr_set0 (Int.ediv_nonneg hc (by omega))) fun _ _ => dr_p (qq _)
  · rw [decide_eq_false h]
    simp only [mp_pb, mp_bb, mp_rb, consA_pp, ap2_pp, cl0_n, cl1_n, cl2_n, cl3_n, cl4_n, cl5_n, cl6_n, cl7_n, asB_bl, asI_int, andV, orV, notV, cAnd, cOr, cNot, ifE, chM, eNM_p, toD_lst, toD_dk, Jn, frzM, lcB, dcB, itSeq_lst, itSeqD_lst, itSeqD_tup, itEnum_lst, itEnumS_lst, itEnumS_tup, itTup_tup, itStr_str, itZip_lst, itZipT_tup, itEz_lst, itRev_lst, forK_true, unp1_ok, unp2_ok, unp3_ok, unp4_ok, unp2L_ok, op_addI, L3.op_sub, op_cmp, op_eqI, op_eqS, op_inS, cb_lenL, cb_lenT, cb_lenD, cb_int2, cb_abs, cb_tupL, cb_tupT, cb_intB, cb_boolI, slM_L, slM_T, isDict_dk, asL_lst, isL_lst, revM_lst, revTM_tup, negM_int, augM_pp, isStr_str, isLst_lst, optM_some, tup0, tup1, tup2, tup3, tup4, lst0, lst1, lst2, lst3, lst4, lst5, insE_ok, isInt_int, isInt_bl, isInt_str, isInt_tup, isInt_lst, isInt_non, isInt_dk, isBl_int, isBl_bl, isBl_str, isBl_tup, isBl_lst, isBl_non, isStr_int, isStr_bl, isStr_s, isStr_tup, isStr_lst, isStr_non, isTup_int, isTup_bl, isTup_str, isTup_tup, isTup_lst, isTup_non, dLst_int, dLst_bl, dLst_str, dLst_tup, dLst_lst, dLst_non, ite_mt, ite_mf, if_true, if_false, Bool.false_eq_true, Bool.true_eq_false, Bool.not_true, Bool.not_false, Bool.or_false, Bool.or_true, Bool.false_or, Bool.true_or, Bool.and_true, Bool.and_false, Bool.true_and, Bool.false_and, ↓reduceIte, decide_true, decide_false, isB_non, isBB_non, isO_non, isB_bl, isBB_bl, isO_bl, isB_int, isBB_int, isO_int, isB_str, isBB_str, isO_str, isB_lst, isBB_lst, isO_lst, isB_tup, isBB_tup, isO_tup, isB_dk, isBB_dk, isO_dk]
    refine dr_incB (fun _ => ?_)
    refine dr_b dr_ix1 (fun _ z => ?_)
    obtain ⟨b, hb, hb2, rfl⟩ := z
    refine dr_b dr_ix2 (fun _ z => ?_)
    obtain ⟨c, hc, hc2, rfl⟩ := z
    simp only [mp_pb, mp_bb, mp_rb, consA_pp, ap2_pp, cl0_n, cl1_n, cl2_n, cl3_n, cl4_n, cl5_n, cl6_n, cl7_n, asB_bl, asI_int, andV, orV, notV, cAnd, cOr, cNot, ifE, chM, eNM_p, toD_lst, toD_dk, Jn, frzM, lcB, dcB, itSeq_lst, itSeqD_lst, itSeqD_tup, itEnum_lst, itEnumS_lst, itEnumS_tup, itTup_tup, itStr_str, itZip_lst, itZipT_tup, itEz_lst, itRev_lst, forK_true, unp1_ok, unp2_ok, unp3_ok, unp4_ok, unp2L_ok, op_addI, L3.op_sub, op_cmp, op_eqI, op_eqS, op_inS, cb_lenL, cb_lenT, cb_lenD, cb_int2, cb_abs, cb_tupL, cb_tupT, cb_intB, cb_boolI, slM_L, slM_T, isDict_dk, asL_lst, isL_lst, revM_lst, revTM_tup, negM_int, augM_pp, isStr_str, isLst_lst, optM_some, tup0, tup1, tup2, tup3, tup4, lst0, lst1, lst2, lst3, lst4, lst5, insE_ok, isInt_int, isInt_bl, isInt_str, isInt_tup, isInt_lst, isInt_non, isInt_dk, isBl_int, isBl_bl, isBl_str, isBl_tup, isBl_lst, isBl_non, isStr_int, isStr_bl, isStr_s, isStr_tup, isStr_lst, isStr_non, isTup_int, isTup_bl, isTup_str, isTup_tup, isTup_lst, isTup_non, dLst_int, dLst_bl, dLst_str, dLst_tup, dLst_lst, dLst_non, ite_mt, ite_mf, if_true, if_false, Bool.false_eq_true, Bool.true_eq_false, Bool.not_true, Bool.not_false, Bool.or_false, Bool.or_true, Bool.false_or, Bool.true_or, Bool.and_true, Bool.and_false, Bool.true_and, Bool.false_and, ↓reduceIte, decide_true, decide_false, isB_non, isBB_non, isO_non, isB_bl, isBB_bl, isO_bl, isB_int, isBB_int, isO_int, isB_str, isBB_str, isO_str, isB_lst, isBB_lst, isO_lst, isB_tup, isBB_tup, isO_tup, isB_dk, isBB_dk, isO_dk, op_mul (i := 7919) (j := c) (.inl ⟨by decide, by decide⟩), op_pow (i := b + 7919 * c + 17) (j := 5) (pow_ok (by omega) (by omega) (by decide) (by decide))]
    generalize (b + 7919 * c + 17) ^ Int.toNat 5 = y
    simp only [mp_pb, mp_bb, mp_rb, consA_pp, ap2_pp, cl0_n, cl1_n, cl2_n, cl3_n, cl4_n, cl5_n, cl6_n, cl7_n, asB_bl, asI_int, andV, orV, notV, cAnd, cOr, cNot, ifE, chM, eNM_p, toD_lst, toD_dk, Jn, frzM, lcB, dcB, itSeq_lst, itSeqD_lst, itSeqD_tup, itEnum_lst, itEnumS_lst, itEnumS_tup, itTup_tup, itStr_str, itZip_lst, itZipT_tup, itEz_lst, itRev_lst, forK_true, unp1_ok, unp2_ok, unp3_ok, unp4_ok, unp2L_ok, op_addI, L3.op_sub, op_cmp, op_eqI, op_eqS, op_inS, cb_lenL, cb_lenT, cb_lenD, cb_int2, cb_abs, cb_tupL, cb_tupT, cb_intB, cb_boolI, slM_L, slM_T, isDict_dk, asL_lst, isL_lst, revM_lst, revTM_tup, negM_int, augM_pp, isStr_str, isLst_lst, optM_some, tup0, tup1, tup2, tup3, tup4, lst0, lst1, lst2, lst3, lst4, lst5, insE_ok, isInt_int, isInt_bl, isInt_str, isInt_tup, isInt_lst, isInt_non, isInt_dk, isBl_int, isBl_bl, isBl_str, isBl_tup, isBl_lst, isBl_non, isStr_int, isStr_bl, isStr_s, isStr_tup, isStr_lst, isStr_non, isTup_int, isTup_bl, isTup_str, isTup_tup, isTup_lst, isTup_non, dLst_int, dLst_bl, dLst_str, dLst_tup, dLst_lst, dLst_non, ite_mt, ite_mf, if_true, if_false, Bool.false_eq_true, Bool.true_eq_false, Bool.not_true, Bool.not_false, Bool.or_false, Bool.or_true, Bool.false_or, Bool.true_or, Bool.and_true, Bool.and_false, Bool.true_and, Bool.false_and, ↓reduceIte, decide_true, decide_false, isB_non, isBB_non, isO_non, isB_bl, isBB_bl, isO_bl, isB_int, isBB_int, isO_int, isB_str, isBB_str, isO_str, isB_lst, isBB_lst, isO_lst, isB_tup, isBB_tup, isO_tup, isB_dk, isBB_dk, isO_dk, op_mod (i := y) (j := 2147483647) (by decide)]
    refine dr_b dr_ix2 (fun _ z => ?_)
    obtain ⟨c', hc', hc2', rfl⟩ := z
    have y1 := Int.emod_nonneg y (show (2147483647 : Int) ≠ 0 by decide)
    have y2 := Int.emod_lt_of_pos y (show (0 : Int) < 2147483647 by decide)
    generalize y % 2147483647 = y at *
    simp only [mp_pb, mp_bb, mp_rb, consA_pp, ap2_pp, cl0_n, cl1_n, cl2_n, cl3_n, cl4_n, cl5_n, cl6_n, cl7_n, asB_bl, asI_int, andV, orV, notV, cAnd, cOr, cNot, ifE, chM, eNM_p, toD_lst, toD_dk, Jn, frzM, lcB, dcB, itSeq_lst, itSeqD_lst, itSeqD_tup, itEnum_lst, itEnumS_lst, itEnumS_tup, itTup_tup, itStr_str, itZip_lst, itZipT_tup, itEz_lst, itRev_lst, forK_true, unp1_ok, unp2_ok, unp3_ok, unp4_ok, unp2L_ok, op_addI, L3.op_sub, op_cmp, op_eqI, op_eqS, op_inS, cb_lenL, cb_lenT, cb_lenD, cb_int2, cb_abs, cb_tupL, cb_tupT, cb_intB, cb_boolI, slM_L, slM_T, isDict_dk, asL_lst, isL_lst, revM_lst, revTM_tup, negM_int, augM_pp, isStr_str, isLst_lst, optM_some, tup0, tup1, tup2, tup3, tup4, lst0, lst1, lst2, lst3, lst4, lst5, insE_ok, isInt_int, isInt_bl, isInt_str, isInt_tup, isInt_lst, isInt_non, isInt_dk, isBl_int, isBl_bl, isBl_str, isBl_tup, isBl_lst, isBl_non, isStr_int, isStr_bl, isStr_s, isStr_tup, isStr_lst, isStr_non, isTup_int, isTup_bl, isTup_str, isTup_tup, isTup_lst, isTup_non, dLst_int, dLst_bl, dLst_str, dLst_tup, dLst_lst, dLst_non, ite_mt, ite_mf, if_true, if_false, Bool.false_eq_true, Bool.true_eq_false, Bool.not_true, Bool.not_false, Bool.or_false, Bool.or_true, Bool.false_or, Bool.true_or, Bool.and_true, Bool.and_false, Bool.true_and, Bool.false_and, ↓reduceIte, decide_true, decide_false, isB_non, isBB_non, isO_non, isB_bl, isBB_bl, isO_bl, isB_int, isBB_int, isO_int, isB_str, isBB_str, isO_str, isB_lst, isBB_lst, isO_lst, isB_tup, isBB_tup, isO_tup, isB_dk, isBB_dk, isO_dk, op_mul (i := 104729) (j := c') (.inl ⟨by decide, by decide⟩), op_pow (i := y + 104729 * c') (j := 3) (pow_ok (by omega) (by omega) (by decide) (by decide))]
    generalize (y + 104729 * c') ^ Int.toNat 3 = y
    simp only [mp_pb, mp_bb, mp_rb, consA_pp, ap2_pp, cl0_n, cl1_n, cl2_n, cl3_n, cl4_n, cl5_n, cl6_n, cl7_n, asB_bl, asI_int, andV, orV, notV, cAnd, cOr, cNot, ifE, chM, eNM_p, toD_lst, toD_dk, Jn, frzM, lcB, dcB, itSeq_lst, itSeqD_lst, itSeqD_tup, itEnum_lst, itEnumS_lst, itEnumS_tup, itTup_tup, itStr_str, itZip_lst, itZipT_tup, itEz_lst, itRev_lst, forK_true, unp1_ok, unp2_ok, unp3_ok, unp4_ok, unp2L_ok, op_addI, L3.op_sub, op_cmp, op_eqI, op_eqS, op_inS, cb_lenL, cb_lenT, cb_lenD, cb_int2, cb_abs, cb_tupL, cb_tupT, cb_intB, cb_boolI, slM_L, slM_T, isDict_dk, asL_lst, isL_lst, revM_lst, revTM_tup, negM_int, augM_pp, isStr_str, isLst_lst, optM_some, tup0, tup1, tup2, tup3, tup4, lst0, lst1, lst2, lst3, lst4, lst5, insE_ok, isInt_int, isInt_bl, isInt_str, isInt_tup, isInt_lst, isInt_non, isInt_dk, isBl_int, isBl_bl, isBl_str, isBl_tup, isBl_lst, isBl_non, isStr_int, isStr_bl, isStr_s, isStr_tup, isStr_lst, isStr_non, isTup_int, isTup_bl, isTup_str, isTup_tup, isTup_lst, isTup_non, dLst_int, dLst_bl, dLst_str, dLst_tup, dLst_lst, dLst_non, ite_mt, ite_mf, if_true, if_false, Bool.false_eq_true, Bool.true_eq_false, Bool.not_true, Bool.not_false, Bool.or_false, Bool.or_true, Bool.false_or, Bool.true_or, Bool.and_true, Bool.and_false, Bool.true_and, Bool.false_and, ↓reduceIte, decide_true, decide_false, isB_non, isBB_non, isO_non, isB_bl, isBB_bl, isO_bl, isB_int, isBB_int, isO_int, isB_str, isBB_str, isO_str, isB_lst, isBB_lst, isO_lst, isB_tup, isBB_tup, isO_tup, isB_dk, isBB_dk, isO_dk, op_mod (i := y) (j := 2147483587) (by decide), op_div (j := 16) (by decide), op_mod (j := (many : Int)) (by omega)]
    exact dr_p (qq _)
theorem law_cell {ns : List Int} {k : Nat} (hk : k ≤ 1000) : ∃ z : Int, m__law_cell K (.scr K ns) (.int k) = pure (.int z) := by
  unfold m__law_cell
  by_cases h : k < ns.length
  · refine ⟨ns[k], ?_⟩
    have e : opM (rDer (rIxA3 K)) (.scr K ns) (.int k) = pure (.int ns[k]) := op_ixScr (atI_nat (List.getElem?_eq_getElem h))
    simp only [mp_pb, mp_bb, mp_rb, consA_pp, ap2_pp, cl0_n, cl1_n, cl2_n, cl3_n, cl4_n, cl5_n, cl6_n, cl7_n, asB_bl, asI_int, andV, orV, notV, cAnd, cOr, cNot, ifE, chM, eNM_p, toD_lst, toD_dk, Jn, frzM, lcB, dcB, itSeq_lst, itSeqD_lst, itSeqD_tup, itEnum_lst, itEnumS_lst, itEnumS_tup, itTup_tup, itStr_str, itZip_lst, itZipT_tup, itEz_lst, itRev_lst, forK_true, unp1_ok, unp2_ok, unp3_ok, unp4_ok, unp2L_ok, op_addI, L3.op_sub, op_cmp, op_eqI, op_eqS, op_inS, cb_lenL, cb_lenT, cb_lenD, cb_int2, cb_abs, cb_tupL, cb_tupT, cb_intB, cb_boolI, slM_L, slM_T, isDict_dk, asL_lst, isL_lst, revM_lst, revTM_tup, negM_int, augM_pp, isStr_str, isLst_lst, optM_some, tup0, tup1, tup2, tup3, tup4, lst0, lst1, lst2, lst3, lst4, lst5, insE_ok, isInt_int, isInt_bl, isInt_str, isInt_tup, isInt_lst, isInt_non, isInt_dk, isBl_int, isBl_bl, isBl_str, isBl_tup, isBl_lst, isBl_non, isStr_int, isStr_bl, isStr_s, isStr_tup, isStr_lst, isStr_non, isTup_int, isTup_bl, isTup_str, isTup_tup, isTup_lst, isTup_non, dLst_int, dLst_bl, dLst_str, dLst_tup, dLst_lst, dLst_non, ite_mt, ite_mf, if_true, if_false, Bool.false_eq_true, Bool.true_eq_false, Bool.not_true, Bool.not_false, Bool.or_false, Bool.or_true, Bool.false_or, Bool.true_or, Bool.and_true, Bool.and_false, Bool.true_and, Bool.false_and, ↓reduceIte, decide_true, decide_false, isB_non, isBB_non, isO_non, isB_bl, isBB_bl, isO_bl, isB_int, isBB_int, isO_int, isB_str, isBB_str, isO_str, isB_lst, isBB_lst, isO_lst, isB_tup, isBB_tup, isO_tup, isB_dk, isBB_dk, isO_dk, cb_lenScr, e]
    rw [decide_eq_true (show (k : Int) < (ns.length : Nat) by omega)]
    rfl
  · refine ⟨15485933 * k  + 17, ?_⟩
    have e : opM (rDer rMul3) (.int 15485933) (.int k) = pure (.int (15485933 * k)) := op_mul (by first | (unfold CMul; omega) | (constructor <;> omega))
    simp only [mp_pb, mp_bb, mp_rb, consA_pp, ap2_pp, cl0_n, cl1_n, cl2_n, cl3_n, cl4_n, cl5_n, cl6_n, cl7_n, asB_bl, asI_int, andV, orV, notV, cAnd, cOr, cNot, ifE, chM, eNM_p, toD_lst, toD_dk, Jn, frzM, lcB, dcB, itSeq_lst, itSeqD_lst, itSeqD_tup, itEnum_lst, itEnumS_lst, itEnumS_tup, itTup_tup, itStr_str, itZip_lst, itZipT_tup, itEz_lst, itRev_lst, forK_true, unp1_ok, unp2_ok, unp3_ok, unp4_ok, unp2L_ok, op_addI, L3.op_sub, op_cmp, op_eqI, op_eqS, op_inS, cb_lenL, cb_lenT, cb_lenD, cb_int2, cb_abs, cb_tupL, cb_tupT, cb_intB, cb_boolI, slM_L, slM_T, isDict_dk, asL_lst, isL_lst, revM_lst, revTM_tup, negM_int, augM_pp, isStr_str, isLst_lst, optM_some, tup0, tup1, tup2, tup3, tup4, lst0, lst1, lst2, lst3, lst4, lst5, insE_ok, isInt_int, isInt_bl, isInt_str, isInt_tup, isInt_lst, isInt_non, isInt_dk, isBl_int, isBl_bl, isBl_str, isBl_tup, isBl_lst, isBl_non, isStr_int, isStr_bl, isStr_s, isStr_tup, isStr_lst, isStr_non, isTup_int, isTup_bl, isTup_str, isTup_tup, isTup_lst, isTup_non, dLst_int, dLst_bl, dLst_str, dLst_tup, dLst_lst, dLst_non, ite_mt, ite_mf, if_true, if_false, Bool.false_eq_true, Bool.true_eq_false, Bool.not_true, Bool.not_false, Bool.or_false, Bool.or_true, Bool.false_or, Bool.true_or, Bool.and_true, Bool.and_false, Bool.true_and, Bool.false_and, ↓reduceIte, decide_true, decide_false, isB_non, isBB_non, isO_non, isB_bl, isBB_bl, isO_bl, isB_int, isBB_int, isO_int, isB_str, isBB_str, isO_str, isB_lst, isBB_lst, isO_lst, isB_tup, isBB_tup, isO_tup, isB_dk, isBB_dk, isO_dk, cb_lenScr, e]
    rw [decide_eq_false (show ¬ (k : Int) < (ns.length : Nat) by omega)]
    rfl
theorem dr_box {z : Int} : Dr 0 (m__law_box K (.int z)) (fun d => d = .box) := by
  unfold m__law_box
  try simp only [mp_pb, mp_bb, mp_rb, consA_pp, ap2_pp, cl0_n, cl1_n, cl2_n, cl3_n, cl4_n, cl5_n, cl6_n, cl7_n, asB_bl, asI_int, andV, orV, notV, cAnd, cOr, cNot, ifE, chM, eNM_p, toD_lst, toD_dk, Jn, frzM, lcB, dcB, itSeq_lst, itSeqD_lst, itSeqD_tup, itEnum_lst, itEnumS_lst, itEnumS_tup, itTup_tup, itStr_str, itZip_lst, itZipT_tup, itEz_lst, itRev_lst, forK_true, unp1_ok, unp2_ok, unp3_ok, unp4_ok, unp2L_ok, op_addI, L3.op_sub, op_cmp, op_eqI, op_eqS, op_inS, cb_lenL, cb_lenT, cb_lenD, cb_int2, cb_abs, cb_tupL, cb_tupT, cb_intB, cb_boolI, slM_L, slM_T, isDict_dk, asL_lst, isL_lst, revM_lst, revTM_tup, negM_int, augM_pp, isStr_str, isLst_lst, optM_some, tup0, tup1, tup2, tup3, tup4, lst0, lst1, lst2, lst3, lst4, lst5, insE_ok, isInt_int, isInt_bl, isInt_str, isInt_tup, isInt_lst, isInt_non, isInt_dk, isBl_int, isBl_bl, isBl_str, isBl_tup, isBl_lst, isBl_non, isStr_int, isStr_bl, isStr_s, isStr_tup, isStr_lst, isStr_non, isTup_int, isTup_bl, isTup_str, isTup_tup, isTup_lst, isTup_non, dLst_int, dLst_bl, dLst_str, dLst_tup, dLst_lst, dLst_non, ite_mt, ite_mf, if_true, if_false, Bool.false_eq_true, Bool.true_eq_false, Bool.not_true, Bool.not_false, Bool.or_false, Bool.or_true, Bool.false_or, Bool.true_or, Bool.and_true, Bool.and_false, Bool.true_and, Bool.false_and, ↓reduceIte, decide_true, decide_false, isB_non, isBB_non, isO_non, isB_bl, isBB_bl, isO_bl, isB_int, isBB_int, isO_int, isB_str, isBB_str, isO_str, isB_lst, isBB_lst, isO_lst, isB_tup, isBB_tup, isO_tup, isB_dk, isBB_dk, isO_dk, ap2, consA, eNM, lcM_bb, op_pow (i := 10) (j := 18) (by unfold CPow; decide), op_mod (j := 2147483629) (by decide), lst3]
  intro m Q X hm q
  refine ⟨_, _, _, rfl, ⟨?_, ?_, ?_, by decide, by omega⟩, q _ _ rfl (by omega) (fun _ _ e => e)⟩
  · split <;> omega
  · omega
  · omega
end
section
variable {K : PySem.W.Frag} {α β : Type} {m : Mem} {c c1 : Nat}
/-- run from here, x draws c times at most, and gives what is P then -/
def Rn (m : Mem) (c : Nat) (x : MP α) (P : α → Mem → Prop) : Prop := ∀ (Q : α → Mem → Prop) (X : Exn3 → Mem → Prop), m.n + c ≤ 2 ^ 40 → (∀ a m', P a m' → m'.n ≤ m.n + c → Q a m') → x.run m Q X
theorem rn_p {a : α} {P : α → Mem → Prop} (h : P a m) : Rn m c (pure a) P := fun Q X _ q => q a m h (Nat.le_add_right _ _)
theorem rn_b {x : MP α} {f : α → MP β} {P : α → Mem → Prop} {P' : β → Mem → Prop} (h : Rn m c1 x P) (k : ∀ a m', P a m' → Rn m' (c - c1) (f a) P') (hc : c1 ≤ c := by omega) : Rn m c (x >>= f) P' := fun Q X hm q => h _ X (by omega) fun a m1 pa h1 => k a m1 pa Q X (by omega) fun b m2 pb h2 => q b m2 pb (by omega)
theorem rn_w {c' : Nat} {x : MP α} {P P' : α → Mem → Prop} (h : Rn m c x P) (k : ∀ a m', P a m' → P' a m') (hc : c ≤ c' := by omega) : Rn m c' x P' := fun Q X hm q => h Q X (by omega) fun a m' pa hm' => q a m' (k a m' pa) (by omega)
theorem rn_dr {x : MP α} {P : α → Prop} (h : Dr c x P) : Rn m c x (fun a m' => P a ∧ Csle m m') := fun Q X hm q => h m Q X hm fun a m' pa hn k => q a m' ⟨pa, k⟩ hn
theorem csle_add {o : O} : Csle m (m.cadd o) := fun i o' e => by
  show (m.cs ++ [some o])[i]? = _
  rw [List.getElem?_append_left (List.getElem?_eq_some_iff.mp e).1]
  exact e
theorem cadd_at {o : O} : (m.cadd o).cs[m.cs.length]? = some (some o) := by
  show (m.cs ++ [some o])[m.cs.length]? = _
  rw [List.getElem?_append_right (Nat.le_refl _), Nat.sub_self]; rfl
theorem rn_cel {o : O} {f : D → MP β} {P : β → Mem → Prop} (h : Rn (m.cadd o) c (f (.cel m.cs.length)) P) : Rn m c (celM o >>= f) P := fun Q X hm q => h Q X hm q
theorem rn_n {x : MP α} {P : α → Mem → Prop} (h : Rn m c x P) : Rn m c x.noX P := fun Q X hm q => h Q _ hm q
theorem rn_dx {x : MP α} {f : α → MP β} {P : α → Prop} {P' : β → Mem → Prop} (h : Dr c1 x P) (k : ∀ a m', P a → Csle m m' → Rn m' (c - c1) (f a) P') (hc : c1 ≤ c := by omega) : Rn m c (x >>= f) P' := rn_b (rn_dr h) (fun a m' z => k a m' z.1 z.2) hc
/-- a loop -/
theorem rn_for {R S : Type} {items : List D} {b : D → S → (S → MP R) → MP R} {j : S → MP R} {c' : Nat} {P : R → Mem → Prop} (I : Nat → S → Mem → Prop)
    (hb : ∀ (k : Nat) d s (n : S → MP R) cn m, items[k]? = some d → I k s m → (∀ s' m', I (k + 1) s' m' → Rn m' cn (n s') P) → Rn m (cn + c) (b d s n) P)
    (hj : ∀ s m, I items.length s m → Rn m c' (j s) P) {s0 : S} (h0 : I 0 s0 m) : Rn m (c' + items.length * c) (forP b j items s0) P := by
  have go : ∀ (l : List D) (k : Nat) (s : S) (m : Mem), items.drop k = l → k ≤ items.length → I k s m → Rn m (c' + l.length * c) (forP b j l s) P := by
    intro l
    induction l with
    | nil =>
      intro k s m e hk h
      rw [forP_nil]
      have : k = items.length := by
        have := congrArg List.length e
        rw [List.length_drop, List.length_nil] at this
        omega
      subst this
      exact rn_w (hj s m h) (fun _ _ h => h) (Nat.le_add_right _ _)
    | cons d l ih =>
      intro k s m e hk h
      rw [forP_cons, List.length_cons, Nat.succ_mul, ← Nat.add_assoc]
      have hk' : k < items.length := by
        have := congrArg List.length e
        rw [List.length_drop, List.length_cons] at this
        omega
      have e1 := List.drop_eq_getElem_cons hk'
      rw [e] at e1
      obtain ⟨e2, e3⟩ := List.cons.inj e1
      refine hb k d s _ _ m (by rw [List.getElem?_eq_getElem hk', e2]) h fun s' m' h' => ?_
      exact ih (k + 1) s' m' e3.symm hk' h'
  exact go items 0 s0 m (by rw [List.drop_zero]) (Nat.zero_le _) h0
end
end W
set_option Elab.async false
set_option linter.all false
set_option maxRecDepth 100000
set_option maxHeartbeats 1000000
namespace W
open PySem PySem.Spec PyProof.Rows L2 L3 He TT
local instance xdead0D : XCt := XCt.dead
def moreD : D := .str "more"
def l3 : List (List D) := [[], [.str "a", .lst [.int 1]], [.non]]
def d4 : List (List Key × List D) := [([], []), ([.inr "a"], [.lst [.int 3]]), ([.inr "more"], [.int 1]), ([.inr "a", .inr "more"], [.lst [.int 3], .int 1])]
/-- what stands in a cell, n things put in at most -/
inductive Gr (n : Nat) : O → Prop
  | l (ds : List D) (h : ds ∈ l3) (k : Nat) (hk : k ≤ n) : Gr n (.lst (ds ++ List.replicate k moreD))
  | d (ks : List Key) (es : List D) (h : (ks, es) ∈ d4) : Gr n (.dk ks es)
def okS (d : D) : Bool := d.plain && (decide (d.dep ≤ 64) && (d.py.showable && decide (d.py.shown.length ≤ sizeLine)))
theorem okS_ok {d : D} (h : okS d = true) : d.showOk := by
  unfold okS at h
  simp only [Bool.and_eq_true, decide_eq_true_eq] at h
  exact ⟨⟨h.1, h.2.1⟩, h.2.2.1, h.2.2.2⟩
theorem okS_l : (l3.all fun ds => (List.range 15).all fun k => okS (.lst (ds ++ List.replicate k moreD))) = true := by decide +kernel
def okP (p : List Key × List D) : Bool := p.2.all D.plain && ((PyData.dict (dkPy p.1 p.2)).showable && (decide ((PyData.dict (dkPy p.1 p.2)).depth ≤ 64) && decide ((PyData.dict (dkPy p.1 p.2)).shown.length ≤ sizeLine)))
theorem okP_d : d4.all okP = true := by decide +kernel
section
variable {K : PySem.W.Frag}
theorem Gr.shows {n : Nat} {o : O} (h : Gr n o) (hn : n ≤ 14) : ∃ t, ReprOf K t o.toD := by
  cases h with
  | l ds h k hk =>
    have z := List.all_eq_true.mp (List.all_eq_true.mp okS_l ds h) k (List.mem_range.mpr (by omega))
    exact ⟨_, okS_ok z, rfl⟩
  | d ks es h =>
    have z := List.all_eq_true.mp okP_d _ h
    unfold okP at z
    simp only [Bool.and_eq_true, decide_eq_true_eq] at z
    exact ⟨_, ⟨z.1, z.2.1, z.2.2.1, z.2.2.2⟩, rfl⟩
theorem Gr.le {n n' : Nat} {o : O} (h : Gr n o) (hn : n ≤ n') : Gr n' o := by
  cases h with
  | l ds h k hk => exact .l ds h k (by omega)
  | d ks es h => exact .d ks es h
def fl10 : List D := [.non, .bl true, .bl false, .int 0, .int (-7), .int (10 ^ 29)] ++ ([.str "", .str "f A", .tup [], .tup [.int 1, .bl true]] : List D)
theorem okS_f : fl10.all okS = true := by decide +kernel
def ntD (K : PySem.W.Frag) : D := .exd (ga K "NoTerm") (some "no term") ["found"] [.int 3]
/-- a thing, n things put in at most -/
inductive Th (K : PySem.W.Frag) (n : Nat) (m : Mem) : D → Prop
  | f (d : D) (h : d ∈ fl10) : Th K n m d
  | t : Th K n m (ntD K)
  | c (i : Nat) (o : O) (e : m.cs[i]? = some (some o)) (g : Gr n o) : Th K n m (.cel i)
theorem Th.mono {n : Nat} {m m' : Mem} {d : D} (h : Th K n m d) (k : Csle m m') : Th K n m' d := by
  cases h with
  | f d h => exact .f d h
  | t => exact .t
  | c i o e g => exact .c i o (k _ _ e) g
theorem Th.le {n n' : Nat} {m : Mem} {d : D} (h : Th K n m d) (hn : n ≤ n') : Th K n' m d := by
  cases h with
  | f d h => exact .f d h
  | t => exact .t
  | c i o e g => exact .c i o e (g.le hn)
theorem der_celO {m : Mem} {i : Nat} {o : O} (e : m.cs[i]? = some (some o)) : m.der (.cel i) = o.toD := by
  show (match m.cs[i]? with | some (some o) => o.toD | _ => D.cel i) = _
  rw [e]
theorem fl10_der {d : D} (h : d ∈ fl10) (m : Mem) : m.der d = d := by
  unfold fl10 at h
  simp only [List.cons_append, List.nil_append, List.mem_cons, List.not_mem_nil, or_false] at h
  rcases h with rfl | rfl | rfl | rfl | rfl | rfl | rfl | rfl | rfl | rfl <;> rfl
theorem Kx.nt (k : Kx K) : RepI K (ga K "NoTerm") ∧ headX K (ga K "NoTerm") = some "NoTerm" ∧ excIB K (ga K "NoTerm") = true ∧ PySem.W.kitOne K (.ref (ga K "NoTerm")) (.type "list") = some false ∧ PySem.W.kitOne K (.ref (ga K "NoTerm")) (.type "dict") = some false := by
  have h := k.h3
  unfold kx3 at h
  simp only [Bool.and_eq_true, decide_eq_true_eq] at h
  obtain ⟨h1, h2, h3, h4, h5, h6⟩ := h
  exact ⟨⟨h1, h2⟩, h3, h4, h5, h6⟩
theorem nt_size : (("NoTerm" : Str) ++ "(" ++ reprText "no term" ++ ")").length ≤ sizeLine := by decide +kernel
/-- it is shown -/
theorem Th.gd {n : Nat} {m : Mem} {d : D} (k : Kx K) (h : Th K n m d) (hn : n ≤ 14) : ∃ t, ReprOf K t (m.der d) := by
  cases h with
  | f d h =>
    rw [fl10_der h]
    have z := okS_ok (List.all_eq_true.mp okS_f d h)
    unfold fl10 at h
    simp only [List.cons_append, List.nil_append, List.mem_cons, List.not_mem_nil, or_false] at h
    rcases h with rfl | rfl | rfl | rfl | rfl | rfl | rfl | rfl | rfl | rfl <;> exact ⟨_, z, rfl⟩
  | t =>
    obtain ⟨h1, h2, _⟩ := k.nt
    exact ⟨_, h1, _, h2, nt_size, rfl⟩
  | c i o e g =>
    rw [der_celO e]
    exact g.shows hn
/-- whether it is a list, a dict -/
theorem Th.isl {n : Nat} {m : Mem} {d : D} (k : Kx K) (h : Th K n m d) : (∃ i ds k, d = .cel i ∧ ds ∈ l3 ∧ k ≤ n ∧ m.cs[i]? = some (some (.lst (ds ++ List.replicate k moreD))) ∧ pZ K none (.type "list") (pB D.isLst (Cs_ K)) (m.der d) = some true ∧ pZ K none (.type "dict") (pB D.isDct (Cs_ K)) (m.der d) = some false) ∨
    (∃ i ks es, d = .cel i ∧ (ks, es) ∈ d4 ∧ m.cs[i]? = some (some (.dk ks es)) ∧ pZ K none (.type "list") (pB D.isLst (Cs_ K)) (m.der d) = some false ∧ pZ K none (.type "dict") (pB D.isDct (Cs_ K)) (m.der d) = some true) ∨
    ((∀ n' m', Th K n' m' d) ∧ pZ K none (.type "list") (pB D.isLst (Cs_ K)) (m.der d) = some false ∧ pZ K none (.type "dict") (pB D.isDct (Cs_ K)) (m.der d) = some false) := by
  cases h with
  | f d h =>
    refine .inr (.inr ⟨fun _ _ => .f d h, ?_⟩)
    rw [fl10_der h]
    unfold fl10 at h
    simp only [List.cons_append, List.nil_append, List.mem_cons, List.not_mem_nil, or_false] at h
    rcases h with rfl | rfl | rfl | rfl | rfl | rfl | rfl | rfl | rfl | rfl <;> exact ⟨rfl, rfl⟩
  | t =>
    obtain ⟨_, _, h3, h4, h5⟩ := k.nt
    refine .inr (.inr ⟨fun _ _ => .t, ?_, ?_⟩)
    · show (if excIB K (ga K "NoTerm") = true then _ else _) = _
      rw [if_pos h3, h4]
    · show (if excIB K (ga K "NoTerm") = true then _ else _) = _
      rw [if_pos h3, h5]
  | c i o e g =>
    cases g with
    | l ds h k hk =>
      refine .inl ⟨i, ds, k, rfl, h, hk, e, ?_⟩
      rw [der_celO e]
      exact ⟨rfl, rfl⟩
    | d ks es h =>
      refine .inr (.inl ⟨i, ks, es, rfl, h, e, ?_⟩)
      rw [der_celO e]
      exact ⟨rfl, rfl⟩
end
end W
set_option Elab.async false
set_option linter.all false
set_option maxRecDepth 100000
set_option maxHeartbeats 1000000
namespace W
open PySem PySem.Spec PyProof.Rows L2 L3 He TT
local instance xdead0E : XCt := XCt.dead
section
variable {K : PySem.W.Frag} {β : Type} {m : Mem} {c : Nat}
theorem rn_isi {p : D → Option Bool} {cv : V} {d : D} {b : Bool} {f : D → MP β} {P : β → Mem → Prop} (h : p (m.der d) = some b) (k : Rn m c (f (.bl b)) P) : Rn m c (cbM (cDer (rIsi3 p cv)) [d, .raw cv] >>= f) P := fun Q X hm q => by
  have z : rIsi3 p cv [m.der d, .raw cv] m (fun a m1 => (f a).run m1 Q X) := ⟨m.der d, b, rfl, h, k Q X hm q⟩
  exact z
theorem op_eqRaw {neg : Bool} {a b : Str} : opM (rDer (rEqA3 neg)) (.raw (.str a)) (.raw (.str b)) = pure (.bl (if neg then !decide (a = b) else decide (a = b))) := MP.ext fun m Q X => Iff.rfl
/-- both are shown alike -/
theorem rn_same {neg : Bool} {d : D} {f : D → MP β} {P : β → Mem → Prop} (g : ∃ t, ReprOf K t (m.der d)) (k : Rn m c (f (.bl (!neg))) P) : Rn m c (ap2 (cbM (cDer (rReprX3 K)) [d]) (cbM (cDer (rReprX3 K)) [d]) (opM (rDer (rEqA3 neg))) >>= f) P := fun Q X hm q => by
  obtain ⟨t, ht⟩ := g
  refine ⟨m.der d, t, rfl, ht, m.der d, t, rfl, ht, ?_⟩
  have e := op_eqRaw (neg := neg) (a := t) (b := t)
  show (opM (rDer (rEqA3 neg)) (.raw (.str t)) (.raw (.str t)) >>= f).run m Q X
  rw [e, mp_pb]
  rw [decide_eq_true rfl]
  cases neg <;> exact k Q X hm q
theorem same_last {d : D} (g : ∃ t, ReprOf K t (m.der d)) : Rn m 0 (ap2 (cbM (cDer (rReprX3 K)) [d]) (cbM (cDer (rReprX3 K)) [d]) (opM (rDer (rEqA3 false)))) (fun r m' => r = .bl true ∧ m' = m) := by
  have h := rn_same (c := 0) (neg := false) (f := fun r => (pure r : MP D)) (P := fun r m' => r = .bl true ∧ m' = m) g (rn_p ⟨rfl, rfl⟩)
  rw [mp_bp] at h
  exact h
theorem rn_app {i : Nat} {ds : List D} {x : D} {f : Unit → MP β} {P : β → Mem → Prop} (e : m.cs[i]? = some (some (.lst ds))) (hz : ds.length < sizeLine) (k : Rn (m.cset i (.lst (ds ++ [x]))) c (f ()) P) : Rn m c (isCelL (.cel i) >>= fun _ => appCM (.cel i) x >>= f) P := fun Q X hm q =>
  ⟨⟨i, ds, rfl, e⟩, i, ds, rfl, e, hz, k Q X hm q⟩
theorem rn_setK {i : Nat} {o o' : O} {x y : D} {f : Unit → MP β} {P : β → Mem → Prop} (e : m.cs[i]? = some (some o)) (hz : o.dlen < sizeLine) (hp : o.put y x = some o') (k : Rn (m.cset i o') c (f ()) P) : Rn m c (isCel (.cel i) >>= fun _ => setKCM (.cel i) y x >>= f) P := fun Q X hm q =>
  ⟨⟨i, rfl⟩, i, o, o', rfl, e, hz, hp, k Q X hm q⟩
theorem cset_at {i : Nat} {o o' : O} (e : m.cs[i]? = some (some o)) : (m.cset i o').cs[i]? = some (some o') := by
  show (m.cs.set i (some o'))[i]? = _
  rw [List.getElem?_set_self (List.getElem?_eq_some_iff.mp e).1]
theorem put_d {ks : List Key} {es : List D} (h : (ks, es) ∈ d4) : ∃ ks' es', (O.dk ks es).put (.str "more") (.int 1) = some (.dk ks' es') ∧ (ks', es') ∈ d4 ∧ (O.dk ks es).dlen < sizeLine := by
  unfold d4 at h
  simp only [List.mem_cons, List.not_mem_nil, or_false, Prod.mk.injEq] at h
  rcases h with ⟨rfl, rfl⟩ | ⟨rfl, rfl⟩ | ⟨rfl, rfl⟩ | ⟨rfl, rfl⟩
  · exact ⟨[.inr "more"], [.int 1], rfl, by unfold d4; simp, by decide⟩
  · exact ⟨[.inr "a", .inr "more"], [.lst [.int 3], .int 1], rfl, by unfold d4; simp, by decide⟩
  · exact ⟨[.inr "more"], [.int 1], rfl, by unfold d4; simp, by decide⟩
  · exact ⟨[.inr "a", .inr "more"], [.lst [.int 3], .int 1], rfl, by unfold d4; simp, by decide⟩
theorem grow {ds : List D} {k n : Nat} (h : ds ∈ l3) (hk : k ≤ n) : Gr (n + 1) (.lst (ds ++ List.replicate k moreD ++ [.str "more"])) := by
  have e : ds ++ List.replicate k moreD ++ [.str "more"] = ds ++ List.replicate (k + 1) moreD := by rw [List.append_assoc, List.replicate_succ']; rfl
  rw [e]
  exact .l ds h (k + 1) (by omega)
theorem l3_len {ds : List D} (h : ds ∈ l3) : ds.length ≤ 2 := by
  unfold l3 at h
  simp only [List.mem_cons, List.not_mem_nil, or_false] at h
  rcases h with rfl | rfl | rfl <;> decide
/-- it is changed, and shown alike -/
theorem law_very {n : Nat} {d : D} (k : Kx K) (h : Th K n m d) (hn : n < 14) : Rn m 0 (m__law_very K d d) (fun r m' => r = .bl true ∧ Th K (n + 1) m' d ∧ m'.n = m.n) := by
  have big : sizeLine = 16777216 := rfl
  unfold m__law_very
  simp only [mp_pb, mp_bb, mp_rb, consA_pp, ap2_pp, cl0_n, cl1_n, cl2_n, cl3_n, cl4_n, cl5_n, cl6_n, cl7_n, asB_bl, asI_int, andV, orV, notV, cAnd, cOr, cNot, ifE, chM, eNM_p, toD_lst, toD_dk, Jn, frzM, lcB, dcB, itSeq_lst, itSeqD_lst, itSeqD_tup, itEnum_lst, itEnumS_lst, itEnumS_tup, itTup_tup, itStr_str, itZip_lst, itZipT_tup, itEz_lst, itRev_lst, forK_true, unp1_ok, unp2_ok, unp3_ok, unp4_ok, unp2L_ok, op_addI, L3.op_sub, op_cmp, op_eqI, op_eqS, op_inS, cb_lenL, cb_lenT, cb_lenD, cb_int2, cb_abs, cb_tupL, cb_tupT, cb_intB, cb_boolI, slM_L, slM_T, isDict_dk, asL_lst, isL_lst, revM_lst, revTM_tup, negM_int, augM_pp, isStr_str, isLst_lst, optM_some, tup0, tup1, tup2, tup3, tup4, lst0, lst1, lst2, lst3, lst4, lst5, insE_ok, isInt_int, isInt_bl, isInt_str, isInt_tup, isInt_lst, isInt_non, isInt_dk, isBl_int, isBl_bl, isBl_str, isBl_tup, isBl_lst, isBl_non, isStr_int, isStr_bl, isStr_s, isStr_tup, isStr_lst, isStr_non, isTup_int, isTup_bl, isTup_str, isTup_tup, isTup_lst, isTup_non, dLst_int, dLst_bl, dLst_str, dLst_tup, dLst_lst, dLst_non, ite_mt, ite_mf, if_true, if_false, Bool.false_eq_true, Bool.true_eq_false, Bool.not_true, Bool.not_false, Bool.or_false, Bool.or_true, Bool.false_or, Bool.true_or, Bool.and_true, Bool.and_false, Bool.true_and, Bool.false_and, ↓reduceIte, decide_true, decide_false, isB_non, isBB_non, isO_non, isB_bl, isBB_bl, isO_bl, isB_int, isBB_int, isO_int, isB_str, isBB_str, isO_str, isB_lst, isBB_lst, isO_lst, isB_tup, isBB_tup, isO_tup, isB_dk, isBB_dk, isO_dk]
  rcases h.isl k with ⟨i, ds, j, rfl, hd, hj, e, h1, h2⟩ | ⟨i, ks, es, rfl, hd, e, h1, h2⟩ | ⟨hh, h1, h2⟩
  · refine rn_isi h1 ?_
    simp only [mp_pb, mp_bb, mp_rb, consA_pp, ap2_pp, cl0_n, cl1_n, cl2_n, cl3_n, cl4_n, cl5_n, cl6_n, cl7_n, asB_bl, asI_int, andV, orV, notV, cAnd, cOr, cNot, ifE, chM, eNM_p, toD_lst, toD_dk, Jn, frzM, lcB, dcB, itSeq_lst, itSeqD_lst, itSeqD_tup, itEnum_lst, itEnumS_lst, itEnumS_tup, itTup_tup, itStr_str, itZip_lst, itZipT_tup, itEz_lst, itRev_lst, forK_true, unp1_ok, unp2_ok, unp3_ok, unp4_ok, unp2L_ok, op_addI, L3.op_sub, op_cmp, op_eqI, op_eqS, op_inS, cb_lenL, cb_lenT, cb_lenD, cb_int2, cb_abs, cb_tupL, cb_tupT, cb_intB, cb_boolI, slM_L, slM_T, isDict_dk, asL_lst, isL_lst, revM_lst, revTM_tup, negM_int, augM_pp, isStr_str, isLst_lst, optM_some, tup0, tup1, tup2, tup3, tup4, lst0, lst1, lst2, lst3, lst4, lst5, insE_ok, isInt_int, isInt_bl, isInt_str, isInt_tup, isInt_lst, isInt_non, isInt_dk, isBl_int, isBl_bl, isBl_str, isBl_tup, isBl_lst, isBl_non, isStr_int, isStr_bl, isStr_s, isStr_tup, isStr_lst, isStr_non, isTup_int, isTup_bl, isTup_str, isTup_tup, isTup_lst, isTup_non, dLst_int, dLst_bl, dLst_str, dLst_tup, dLst_lst, dLst_non, ite_mt, ite_mf, if_true, if_false, Bool.false_eq_true, Bool.true_eq_false, Bool.not_true, Bool.not_false, Bool.or_false, Bool.or_true, Bool.false_or, Bool.true_or, Bool.and_true, Bool.and_false, Bool.true_and, Bool.false_and, ↓reduceIte, decide_true, decide_false, isB_non, isBB_non, isO_non, isB_bl, isBB_bl, isO_bl, isB_int, isBB_int, isO_int, isB_str, isBB_str, isO_str, isB_lst, isBB_lst, isO_lst, isB_tup, isBB_tup, isO_tup, isB_dk, isBB_dk, isO_dk]
    refine rn_app e (by rw [List.length_append, List.length_replicate]; have := l3_len hd; omega) ?_
    have t : Th K (n + 1) (m.cset i (.lst (ds ++ List.replicate j moreD ++ [.str "more"]))) (.cel i) := .c i _ (cset_at e) (grow hd hj)
    refine rn_isi (b := false) (by rw [der_celO (cset_at e)]; rfl) ?_
    simp only [mp_pb, mp_bb, mp_rb, consA_pp, ap2_pp, cl0_n, cl1_n, cl2_n, cl3_n, cl4_n, cl5_n, cl6_n, cl7_n, asB_bl, asI_int, andV, orV, notV, cAnd, cOr, cNot, ifE, chM, eNM_p, toD_lst, toD_dk, Jn, frzM, lcB, dcB, itSeq_lst, itSeqD_lst, itSeqD_tup, itEnum_lst, itEnumS_lst, itEnumS_tup, itTup_tup, itStr_str, itZip_lst, itZipT_tup, itEz_lst, itRev_lst, forK_true, unp1_ok, unp2_ok, unp3_ok, unp4_ok, unp2L_ok, op_addI, L3.op_sub, op_cmp, op_eqI, op_eqS, op_inS, cb_lenL, cb_lenT, cb_lenD, cb_int2, cb_abs, cb_tupL, cb_tupT, cb_intB, cb_boolI, slM_L, slM_T, isDict_dk, asL_lst, isL_lst, revM_lst, revTM_tup, negM_int, augM_pp, isStr_str, isLst_lst, optM_some, tup0, tup1, tup2, tup3, tup4, lst0, lst1, lst2, lst3, lst4, lst5, insE_ok, isInt_int, isInt_bl, isInt_str, isInt_tup, isInt_lst, isInt_non, isInt_dk, isBl_int, isBl_bl, isBl_str, isBl_tup, isBl_lst, isBl_non, isStr_int, isStr_bl, isStr_s, isStr_tup, isStr_lst, isStr_non, isTup_int, isTup_bl, isTup_str, isTup_tup, isTup_lst, isTup_non, dLst_int, dLst_bl, dLst_str, dLst_tup, dLst_lst, dLst_non, ite_mt, ite_mf, if_true, if_false, Bool.false_eq_true, Bool.true_eq_false, Bool.not_true, Bool.not_false, Bool.or_false, Bool.or_true, Bool.false_or, Bool.true_or, Bool.and_true, Bool.and_false, Bool.true_and, Bool.false_and, ↓reduceIte, decide_true, decide_false, isB_non, isBB_non, isO_non, isB_bl, isBB_bl, isO_bl, isB_int, isBB_int, isO_int, isB_str, isBB_str, isO_str, isB_lst, isBB_lst, isO_lst, isB_tup, isBB_tup, isO_tup, isB_dk, isBB_dk, isO_dk]
    exact rn_w (same_last (t.gd k (by omega))) (fun r m' z => ⟨z.1, by rw [z.2]; exact t, by rw [z.2]; rfl⟩)
  · refine rn_isi h1 ?_
    simp only [mp_pb, mp_bb, mp_rb, consA_pp, ap2_pp, cl0_n, cl1_n, cl2_n, cl3_n, cl4_n, cl5_n, cl6_n, cl7_n, asB_bl, asI_int, andV, orV, notV, cAnd, cOr, cNot, ifE, chM, eNM_p, toD_lst, toD_dk, Jn, frzM, lcB, dcB, itSeq_lst, itSeqD_lst, itSeqD_tup, itEnum_lst, itEnumS_lst, itEnumS_tup, itTup_tup, itStr_str, itZip_lst, itZipT_tup, itEz_lst, itRev_lst, forK_true, unp1_ok, unp2_ok, unp3_ok, unp4_ok, unp2L_ok, op_addI, L3.op_sub, op_cmp, op_eqI, op_eqS, op_inS, cb_lenL, cb_lenT, cb_lenD, cb_int2, cb_abs, cb_tupL, cb_tupT, cb_intB, cb_boolI, slM_L, slM_T, isDict_dk, asL_lst, isL_lst, revM_lst, revTM_tup, negM_int, augM_pp, isStr_str, isLst_lst, optM_some, tup0, tup1, tup2, tup3, tup4, lst0, lst1, lst2, lst3, lst4, lst5, insE_ok, isInt_int, isInt_bl, isInt_str, isInt_tup, isInt_lst, isInt_non, isInt_dk, isBl_int, isBl_bl, isBl_str, isBl_tup, isBl_lst, isBl_non, isStr_int, isStr_bl, isStr_s, isStr_tup, isStr_lst, isStr_non, isTup_int, isTup_bl, isTup_str, isTup_tup, isTup_lst, isTup_non, dLst_int, dLst_bl, dLst_str, dLst_tup, dLst_lst, dLst_non, ite_mt, ite_mf, if_true, if_false, Bool.false_eq_true, Bool.true_eq_false, Bool.not_true, Bool.not_false, Bool.or_false, Bool.or_true, Bool.false_or, Bool.true_or, Bool.and_true, Bool.and_false, Bool.true_and, Bool.false_and, ↓reduceIte, decide_true, decide_false, isB_non, isBB_non, isO_non, isB_bl, isBB_bl, isO_bl, isB_int, isBB_int, isO_int, isB_str, isBB_str, isO_str, isB_lst, isBB_lst, isO_lst, isB_tup, isBB_tup, isO_tup, isB_dk, isBB_dk, isO_dk]
    refine rn_isi h2 ?_
    simp only [mp_pb, mp_bb, mp_rb, consA_pp, ap2_pp, cl0_n, cl1_n, cl2_n, cl3_n, cl4_n, cl5_n, cl6_n, cl7_n, asB_bl, asI_int, andV, orV, notV, cAnd, cOr, cNot, ifE, chM, eNM_p, toD_lst, toD_dk, Jn, frzM, lcB, dcB, itSeq_lst, itSeqD_lst, itSeqD_tup, itEnum_lst, itEnumS_lst, itEnumS_tup, itTup_tup, itStr_str, itZip_lst, itZipT_tup, itEz_lst, itRev_lst, forK_true, unp1_ok, unp2_ok, unp3_ok, unp4_ok, unp2L_ok, op_addI, L3.op_sub, op_cmp, op_eqI, op_eqS, op_inS, cb_lenL, cb_lenT, cb_lenD, cb_int2, cb_abs, cb_tupL, cb_tupT, cb_intB, cb_boolI, slM_L, slM_T, isDict_dk, asL_lst, isL_lst, revM_lst, revTM_tup, negM_int, augM_pp, isStr_str, isLst_lst, optM_some, tup0, tup1, tup2, tup3, tup4, lst0, lst1, lst2, lst3, lst4, lst5, insE_ok, isInt_int, isInt_bl, isInt_str, isInt_tup, isInt_lst, isInt_non, isInt_dk, isBl_int, isBl_bl, isBl_str, isBl_tup, isBl_lst, isBl_non, isStr_int, isStr_bl, isStr_s, isStr_tup, isStr_lst, isStr_non, isTup_int, isTup_bl, isTup_str, isTup_tup, isTup_lst, isTup_non, dLst_int, dLst_bl, dLst_str, dLst_tup, dLst_lst, dLst_non, ite_mt, ite_mf, if_true, if_false, Bool.false_eq_true, Bool.true_eq_false, Bool.not_true, Bool.not_false, Bool.or_false, Bool.or_true, Bool.false_or, Bool.true_or, Bool.and_true, Bool.and_false, Bool.true_and, Bool.false_and, ↓reduceIte, decide_true, decide_false, isB_non, isBB_non, isO_non, isB_bl, isBB_bl, isO_bl, isB_int, isBB_int, isO_int, isB_str, isBB_str, isO_str, isB_lst, isBB_lst, isO_lst, isB_tup, isBB_tup, isO_tup, isB_dk, isBB_dk, isO_dk]
    obtain ⟨ks', es', ep, hd', hz⟩ := put_d hd
    refine rn_setK e hz ep ?_
    have t : Th K (n + 1) (m.cset i (.dk ks' es')) (.cel i) := .c i _ (cset_at e) (.d ks' es' hd')
    exact rn_w (same_last (t.gd k (by omega))) (fun r m' z => ⟨z.1, by rw [z.2]; exact t, by rw [z.2]; rfl⟩)
  · refine rn_isi h1 ?_
    simp only [mp_pb, mp_bb, mp_rb, consA_pp, ap2_pp, cl0_n, cl1_n, cl2_n, cl3_n, cl4_n, cl5_n, cl6_n, cl7_n, asB_bl, asI_int, andV, orV, notV, cAnd, cOr, cNot, ifE, chM, eNM_p, toD_lst, toD_dk, Jn, frzM, lcB, dcB, itSeq_lst, itSeqD_lst, itSeqD_tup, itEnum_lst, itEnumS_lst, itEnumS_tup, itTup_tup, itStr_str, itZip_lst, itZipT_tup, itEz_lst, itRev_lst, forK_true, unp1_ok, unp2_ok, unp3_ok, unp4_ok, unp2L_ok, op_addI, L3.op_sub, op_cmp, op_eqI, op_eqS, op_inS, cb_lenL, cb_lenT, cb_lenD, cb_int2, cb_abs, cb_tupL, cb_tupT, cb_intB, cb_boolI, slM_L, slM_T, isDict_dk, asL_lst, isL_lst, revM_lst, revTM_tup, negM_int, augM_pp, isStr_str, isLst_lst, optM_some, tup0, tup1, tup2, tup3, tup4, lst0, lst1, lst2, lst3, lst4, lst5, insE_ok, isInt_int, isInt_bl, isInt_str, isInt_tup, isInt_lst, isInt_non, isInt_dk, isBl_int, isBl_bl, isBl_str, isBl_tup, isBl_lst, isBl_non, isStr_int, isStr_bl, isStr_s, isStr_tup, isStr_lst, isStr_non, isTup_int, isTup_bl, isTup_str, isTup_tup, isTup_lst, isTup_non, dLst_int, dLst_bl, dLst_str, dLst_tup, dLst_lst, dLst_non, ite_mt, ite_mf, if_true, if_false, Bool.false_eq_true, Bool.true_eq_false, Bool.not_true, Bool.not_false, Bool.or_false, Bool.or_true, Bool.false_or, Bool.true_or, Bool.and_true, Bool.and_false, Bool.true_and, Bool.false_and, ↓reduceIte, decide_true, decide_false, isB_non, isBB_non, isO_non, isB_bl, isBB_bl, isO_bl, isB_int, isBB_int, isO_int, isB_str, isBB_str, isO_str, isB_lst, isBB_lst, isO_lst, isB_tup, isBB_tup, isO_tup, isB_dk, isBB_dk, isO_dk]
    refine rn_isi h2 ?_
    simp only [mp_pb, mp_bb, mp_rb, consA_pp, ap2_pp, cl0_n, cl1_n, cl2_n, cl3_n, cl4_n, cl5_n, cl6_n, cl7_n, asB_bl, asI_int, andV, orV, notV, cAnd, cOr, cNot, ifE, chM, eNM_p, toD_lst, toD_dk, Jn, frzM, lcB, dcB, itSeq_lst, itSeqD_lst, itSeqD_tup, itEnum_lst, itEnumS_lst, itEnumS_tup, itTup_tup, itStr_str, itZip_lst, itZipT_tup, itEz_lst, itRev_lst, forK_true, unp1_ok, unp2_ok, unp3_ok, unp4_ok, unp2L_ok, op_addI, L3.op_sub, op_cmp, op_eqI, op_eqS, op_inS, cb_lenL, cb_lenT, cb_lenD, cb_int2, cb_abs, cb_tupL, cb_tupT, cb_intB, cb_boolI, slM_L, slM_T, isDict_dk, asL_lst, isL_lst, revM_lst, revTM_tup, negM_int, augM_pp, isStr_str, isLst_lst, optM_some, tup0, tup1, tup2, tup3, tup4, lst0, lst1, lst2, lst3, lst4, lst5, insE_ok, isInt_int, isInt_bl, isInt_str, isInt_tup, isInt_lst, isInt_non, isInt_dk, isBl_int, isBl_bl, isBl_str, isBl_tup, isBl_lst, isBl_non, isStr_int, isStr_bl, isStr_s, isStr_tup, isStr_lst, isStr_non, isTup_int, isTup_bl, isTup_str, isTup_tup, isTup_lst, isTup_non, dLst_int, dLst_bl, dLst_str, dLst_tup, dLst_lst, dLst_non, ite_mt, ite_mf, if_true, if_false, Bool.false_eq_true, Bool.true_eq_false, Bool.not_true, Bool.not_false, Bool.or_false, Bool.or_true, Bool.false_or, Bool.true_or, Bool.and_true, Bool.and_false, Bool.true_and, Bool.false_and, ↓reduceIte, decide_true, decide_false, isB_non, isBB_non, isO_non, isB_bl, isBB_bl, isO_bl, isB_int, isBB_int, isO_int, isB_str, isBB_str, isO_str, isB_lst, isBB_lst, isO_lst, isB_tup, isBB_tup, isO_tup, isB_dk, isBB_dk, isO_dk]
    have t : Th K (n + 1) m d := hh _ _
    exact rn_w (same_last (t.gd k (by omega))) (fun r m' z => ⟨z.1, by rw [z.2]; exact t, by rw [z.2]⟩)
end
end W
set_option Elab.async false
set_option linter.all false
set_option maxRecDepth 100000
set_option maxHeartbeats 1000000
namespace W
open PySem PySem.Spec PyProof.Rows L2 L3 He TT
local instance xdead0F : XCt := XCt.dead
section
variable {K : PySem.W.Frag} {β : Type} {m : Mem} {c : Nat}
theorem ix_mem {L : List D} {k : Nat} (hk : k < L.length) : ∃ d ∈ L, opM (rDer (rIxA3 K)) (.lst L) (.int k) = pure d := ⟨L[k], List.getElem_mem hk, op_ixL (atI_nat (List.getElem?_eq_getElem hk))⟩
theorem disp_a {x : D} : disp1M (.str "a") x = (pure (.dk [.inr "a"] [x]) : MP O) := MP.ext fun m Q X => ⟨fun ⟨k, e, q⟩ => by
  have e2 : (Sum.inr "a" : Key) = k := Option.some.inj e
  rw [← e2] at q
  exact q, fun q => ⟨_, rfl, q⟩⟩
theorem law_thing : Rn m 1 (m__law_thing K .box) (fun d m' => Th K 0 m' d ∧ Csle m m') := by
  have lst16 : ∀ L : List D, L.length = 16 → lstM L = pure (.lst L) := fun L h => lstM_ok (by rw [h]; decide)
  have nt : mkXM (ga K "NoTerm") "found" "no term" (.int 3) = (pure (ntD K) : MP D) := rfl
  unfold m__law_thing
  try simp only [mp_pb, mp_bb, mp_rb, consA_pp, ap2_pp, cl0_n, cl1_n, cl2_n, cl3_n, cl4_n, cl5_n, cl6_n, cl7_n, asB_bl, asI_int, andV, orV, notV, cAnd, cOr, cNot, ifE, chM, eNM_p, toD_lst, toD_dk, Jn, frzM, lcB, dcB, itSeq_lst, itSeqD_lst, itSeqD_tup, itEnum_lst, itEnumS_lst, itEnumS_tup, itTup_tup, itStr_str, itZip_lst, itZipT_tup, itEz_lst, itRev_lst, forK_true, unp1_ok, unp2_ok, unp3_ok, unp4_ok, unp2L_ok, op_addI, L3.op_sub, op_cmp, op_eqI, op_eqS, op_inS, cb_lenL, cb_lenT, cb_lenD, cb_int2, cb_abs, cb_tupL, cb_tupT, cb_intB, cb_boolI, slM_L, slM_T, isDict_dk, asL_lst, isL_lst, revM_lst, revTM_tup, negM_int, augM_pp, isStr_str, isLst_lst, optM_some, tup0, tup1, tup2, tup3, tup4, lst0, lst1, lst2, lst3, lst4, lst5, insE_ok, isInt_int, isInt_bl, isInt_str, isInt_tup, isInt_lst, isInt_non, isInt_dk, isBl_int, isBl_bl, isBl_str, isBl_tup, isBl_lst, isBl_non, isStr_int, isStr_bl, isStr_s, isStr_tup, isStr_lst, isStr_non, isTup_int, isTup_bl, isTup_str, isTup_tup, isTup_lst, isTup_non, dLst_int, dLst_bl, dLst_str, dLst_tup, dLst_lst, dLst_non, ite_mt, ite_mf, if_true, if_false, Bool.false_eq_true, Bool.true_eq_false, Bool.not_true, Bool.not_false, Bool.or_false, Bool.or_true, Bool.false_or, Bool.true_or, Bool.and_true, Bool.and_false, Bool.true_and, Bool.false_and, ↓reduceIte, decide_true, decide_false, isB_non, isBB_non, isO_non, isB_bl, isBB_bl, isO_bl, isB_int, isBB_int, isO_int, isB_str, isBB_str, isO_str, isB_lst, isBB_lst, isO_lst, isB_tup, isBB_tup, isO_tup, isB_dk, isBB_dk, isO_dk, ap2, consA, eNM, lcM_bb, op_pow (i := 10) (j := 29) (by unfold CPow; decide), disp_a, nt]
  refine rn_cel ?_
  have h1 := cadd_at (m := m) (o := .lst [])
  have k1 := csle_add (m := m) (o := .lst [])
  generalize m.cs.length = i1 at *
  generalize m.cadd (.lst []) = m1 at *
  try simp only [mp_pb, mp_bb, mp_rb, consA_pp, ap2_pp, cl0_n, cl1_n, cl2_n, cl3_n, cl4_n, cl5_n, cl6_n, cl7_n, asB_bl, asI_int, andV, orV, notV, cAnd, cOr, cNot, ifE, chM, eNM_p, toD_lst, toD_dk, Jn, frzM, lcB, dcB, itSeq_lst, itSeqD_lst, itSeqD_tup, itEnum_lst, itEnumS_lst, itEnumS_tup, itTup_tup, itStr_str, itZip_lst, itZipT_tup, itEz_lst, itRev_lst, forK_true, unp1_ok, unp2_ok, unp3_ok, unp4_ok, unp2L_ok, op_addI, L3.op_sub, op_cmp, op_eqI, op_eqS, op_inS, cb_lenL, cb_lenT, cb_lenD, cb_int2, cb_abs, cb_tupL, cb_tupT, cb_intB, cb_boolI, slM_L, slM_T, isDict_dk, asL_lst, isL_lst, revM_lst, revTM_tup, negM_int, augM_pp, isStr_str, isLst_lst, optM_some, tup0, tup1, tup2, tup3, tup4, lst0, lst1, lst2, lst3, lst4, lst5, insE_ok, isInt_int, isInt_bl, isInt_str, isInt_tup, isInt_lst, isInt_non, isInt_dk, isBl_int, isBl_bl, isBl_str, isBl_tup, isBl_lst, isBl_non, isStr_int, isStr_bl, isStr_s, isStr_tup, isStr_lst, isStr_non, isTup_int, isTup_bl, isTup_str, isTup_tup, isTup_lst, isTup_non, dLst_int, dLst_bl, dLst_str, dLst_tup, dLst_lst, dLst_non, ite_mt, ite_mf, if_true, if_false, Bool.false_eq_true, Bool.true_eq_false, Bool.not_true, Bool.not_false, Bool.or_false, Bool.or_true, Bool.false_or, Bool.true_or, Bool.and_true, Bool.and_false, Bool.true_and, Bool.false_and, ↓reduceIte, decide_true, decide_false, isB_non, isBB_non, isO_non, isB_bl, isBB_bl, isO_bl, isB_int, isBB_int, isO_int, isB_str, isBB_str, isO_str, isB_lst, isBB_lst, isO_lst, isB_tup, isBB_tup, isO_tup, isB_dk, isBB_dk, isO_dk, ap2, consA, eNM, lcM_bb]
  refine rn_cel ?_
  have h2 := cadd_at (m := m1) (o := .lst [.str "a", .lst [.int 1]])
  have s2 := csle_add (m := m1) (o := .lst [.str "a", .lst [.int 1]])
  have h1 := s2 _ _ h1
  have k1 := k1.trans s2
  clear s2
  generalize m1.cs.length = i2 at *
  generalize m1.cadd (.lst [.str "a", .lst [.int 1]]) = m2 at *
  try simp only [mp_pb, mp_bb, mp_rb, consA_pp, ap2_pp, cl0_n, cl1_n, cl2_n, cl3_n, cl4_n, cl5_n, cl6_n, cl7_n, asB_bl, asI_int, andV, orV, notV, cAnd, cOr, cNot, ifE, chM, eNM_p, toD_lst, toD_dk, Jn, frzM, lcB, dcB, itSeq_lst, itSeqD_lst, itSeqD_tup, itEnum_lst, itEnumS_lst, itEnumS_tup, itTup_tup, itStr_str, itZip_lst, itZipT_tup, itEz_lst, itRev_lst, forK_true, unp1_ok, unp2_ok, unp3_ok, unp4_ok, unp2L_ok, op_addI, L3.op_sub, op_cmp, op_eqI, op_eqS, op_inS, cb_lenL, cb_lenT, cb_lenD, cb_int2, cb_abs, cb_tupL, cb_tupT, cb_intB, cb_boolI, slM_L, slM_T, isDict_dk, asL_lst, isL_lst, revM_lst, revTM_tup, negM_int, augM_pp, isStr_str, isLst_lst, optM_some, tup0, tup1, tup2, tup3, tup4, lst0, lst1, lst2, lst3, lst4, lst5, insE_ok, isInt_int, isInt_bl, isInt_str, isInt_tup, isInt_lst, isInt_non, isInt_dk, isBl_int, isBl_bl, isBl_str, isBl_tup, isBl_lst, isBl_non, isStr_int, isStr_bl, isStr_s, isStr_tup, isStr_lst, isStr_non, isTup_int, isTup_bl, isTup_str, isTup_tup, isTup_lst, isTup_non, dLst_int, dLst_bl, dLst_str, dLst_tup, dLst_lst, dLst_non, ite_mt, ite_mf, if_true, if_false, Bool.false_eq_true, Bool.true_eq_false, Bool.not_true, Bool.not_false, Bool.or_false, Bool.or_true, Bool.false_or, Bool.true_or, Bool.and_true, Bool.and_false, Bool.true_and, Bool.false_and, ↓reduceIte, decide_true, decide_false, isB_non, isBB_non, isO_non, isB_bl, isBB_bl, isO_bl, isB_int, isBB_int, isO_int, isB_str, isBB_str, isO_str, isB_lst, isBB_lst, isO_lst, isB_tup, isBB_tup, isO_tup, isB_dk, isBB_dk, isO_dk, ap2, consA, eNM, lcM_bb]
  refine rn_cel ?_
  have h3 := cadd_at (m := m2) (o := .dk [] [])
  have s3 := csle_add (m := m2) (o := .dk [] [])
  have h1 := s3 _ _ h1
  have h2 := s3 _ _ h2
  have k1 := k1.trans s3
  clear s3
  generalize m2.cs.length = i3 at *
  generalize m2.cadd (.dk [] []) = m3 at *
  try simp only [mp_pb, mp_bb, mp_rb, consA_pp, ap2_pp, cl0_n, cl1_n, cl2_n, cl3_n, cl4_n, cl5_n, cl6_n, cl7_n, asB_bl, asI_int, andV, orV, notV, cAnd, cOr, cNot, ifE, chM, eNM_p, toD_lst, toD_dk, Jn, frzM, lcB, dcB, itSeq_lst, itSeqD_lst, itSeqD_tup, itEnum_lst, itEnumS_lst, itEnumS_tup, itTup_tup, itStr_str, itZip_lst, itZipT_tup, itEz_lst, itRev_lst, forK_true, unp1_ok, unp2_ok, unp3_ok, unp4_ok, unp2L_ok, op_addI, L3.op_sub, op_cmp, op_eqI, op_eqS, op_inS, cb_lenL, cb_lenT, cb_lenD, cb_int2, cb_abs, cb_tupL, cb_tupT, cb_intB, cb_boolI, slM_L, slM_T, isDict_dk, asL_lst, isL_lst, revM_lst, revTM_tup, negM_int, augM_pp, isStr_str, isLst_lst, optM_some, tup0, tup1, tup2, tup3, tup4, lst0, lst1, lst2, lst3, lst4, lst5, insE_ok, isInt_int, isInt_bl, isInt_str, isInt_tup, isInt_lst, isInt_non, isInt_dk, isBl_int, isBl_bl, isBl_str, isBl_tup, isBl_lst, isBl_non, isStr_int, isStr_bl, isStr_s, isStr_tup, isStr_lst, isStr_non, isTup_int, isTup_bl, isTup_str, isTup_tup, isTup_lst, isTup_non, dLst_int, dLst_bl, dLst_str, dLst_tup, dLst_lst, dLst_non, ite_mt, ite_mf, if_true, if_false, Bool.false_eq_true, Bool.true_eq_false, Bool.not_true, Bool.not_false, Bool.or_false, Bool.or_true, Bool.false_or, Bool.true_or, Bool.and_true, Bool.and_false, Bool.true_and, Bool.false_and, ↓reduceIte, decide_true, decide_false, isB_non, isBB_non, isO_non, isB_bl, isBB_bl, isO_bl, isB_int, isBB_int, isO_int, isB_str, isBB_str, isO_str, isB_lst, isBB_lst, isO_lst, isB_tup, isBB_tup, isO_tup, isB_dk, isBB_dk, isO_dk, ap2, consA, eNM, lcM_bb, disp_a]
  refine rn_cel ?_
  have h4 := cadd_at (m := m3) (o := .dk [.inr "a"] [.lst [.int 3]])
  have s4 := csle_add (m := m3) (o := .dk [.inr "a"] [.lst [.int 3]])
  have h1 := s4 _ _ h1
  have h2 := s4 _ _ h2
  have h3 := s4 _ _ h3
  have k1 := k1.trans s4
  clear s4
  generalize m3.cs.length = i4 at *
  generalize m3.cadd (.dk [.inr "a"] [.lst [.int 3]]) = m4 at *
  try simp only [mp_pb, mp_bb, mp_rb, consA_pp, ap2_pp, cl0_n, cl1_n, cl2_n, cl3_n, cl4_n, cl5_n, cl6_n, cl7_n, asB_bl, asI_int, andV, orV, notV, cAnd, cOr, cNot, ifE, chM, eNM_p, toD_lst, toD_dk, Jn, frzM, lcB, dcB, itSeq_lst, itSeqD_lst, itSeqD_tup, itEnum_lst, itEnumS_lst, itEnumS_tup, itTup_tup, itStr_str, itZip_lst, itZipT_tup, itEz_lst, itRev_lst, forK_true, unp1_ok, unp2_ok, unp3_ok, unp4_ok, unp2L_ok, op_addI, L3.op_sub, op_cmp, op_eqI, op_eqS, op_inS, cb_lenL, cb_lenT, cb_lenD, cb_int2, cb_abs, cb_tupL, cb_tupT, cb_intB, cb_boolI, slM_L, slM_T, isDict_dk, asL_lst, isL_lst, revM_lst, revTM_tup, negM_int, augM_pp, isStr_str, isLst_lst, optM_some, tup0, tup1, tup2, tup3, tup4, lst0, lst1, lst2, lst3, lst4, lst5, insE_ok, isInt_int, isInt_bl, isInt_str, isInt_tup, isInt_lst, isInt_non, isInt_dk, isBl_int, isBl_bl, isBl_str, isBl_tup, isBl_lst, isBl_non, isStr_int, isStr_bl, isStr_s, isStr_tup, isStr_lst, isStr_non, isTup_int, isTup_bl, isTup_str, isTup_tup, isTup_lst, isTup_non, dLst_int, dLst_bl, dLst_str, dLst_tup, dLst_lst, dLst_non, ite_mt, ite_mf, if_true, if_false, Bool.false_eq_true, Bool.true_eq_false, Bool.not_true, Bool.not_false, Bool.or_false, Bool.or_true, Bool.false_or, Bool.true_or, Bool.and_true, Bool.and_false, Bool.true_and, Bool.false_and, ↓reduceIte, decide_true, decide_false, isB_non, isBB_non, isO_non, isB_bl, isBB_bl, isO_bl, isB_int, isBB_int, isO_int, isB_str, isBB_str, isO_str, isB_lst, isBB_lst, isO_lst, isB_tup, isBB_tup, isO_tup, isB_dk, isBB_dk, isO_dk, ap2, consA, eNM, lcM_bb]
  refine rn_cel ?_
  have h5 := cadd_at (m := m4) (o := .lst [.non])
  have s5 := csle_add (m := m4) (o := .lst [.non])
  have h1 := s5 _ _ h1
  have h2 := s5 _ _ h2
  have h3 := s5 _ _ h3
  have h4 := s5 _ _ h4
  have k1 := k1.trans s5
  clear s5
  generalize m4.cs.length = i5 at *
  generalize m4.cadd (.lst [.non]) = m5 at *
  try simp only [mp_pb, mp_bb, mp_rb, consA_pp, ap2_pp, cl0_n, cl1_n, cl2_n, cl3_n, cl4_n, cl5_n, cl6_n, cl7_n, asB_bl, asI_int, andV, orV, notV, cAnd, cOr, cNot, ifE, chM, eNM_p, toD_lst, toD_dk, Jn, frzM, lcB, dcB, itSeq_lst, itSeqD_lst, itSeqD_tup, itEnum_lst, itEnumS_lst, itEnumS_tup, itTup_tup, itStr_str, itZip_lst, itZipT_tup, itEz_lst, itRev_lst, forK_true, unp1_ok, unp2_ok, unp3_ok, unp4_ok, unp2L_ok, op_addI, L3.op_sub, op_cmp, op_eqI, op_eqS, op_inS, cb_lenL, cb_lenT, cb_lenD, cb_int2, cb_abs, cb_tupL, cb_tupT, cb_intB, cb_boolI, slM_L, slM_T, isDict_dk, asL_lst, isL_lst, revM_lst, revTM_tup, negM_int, augM_pp, isStr_str, isLst_lst, optM_some, tup0, tup1, tup2, tup3, tup4, lst0, lst1, lst2, lst3, lst4, lst5, insE_ok, isInt_int, isInt_bl, isInt_str, isInt_tup, isInt_lst, isInt_non, isInt_dk, isBl_int, isBl_bl, isBl_str, isBl_tup, isBl_lst, isBl_non, isStr_int, isStr_bl, isStr_s, isStr_tup, isStr_lst, isStr_non, isTup_int, isTup_bl, isTup_str, isTup_tup, isTup_lst, isTup_non, dLst_int, dLst_bl, dLst_str, dLst_tup, dLst_lst, dLst_non, ite_mt, ite_mf, if_true, if_false, Bool.false_eq_true, Bool.true_eq_false, Bool.not_true, Bool.not_false, Bool.or_false, Bool.or_true, Bool.false_or, Bool.true_or, Bool.and_true, Bool.and_false, Bool.true_and, Bool.false_and, ↓reduceIte, decide_true, decide_false, isB_non, isBB_non, isO_non, isB_bl, isBB_bl, isO_bl, isB_int, isBB_int, isO_int, isB_str, isBB_str, isO_str, isB_lst, isBB_lst, isO_lst, isB_tup, isBB_tup, isO_tup, isB_dk, isBB_dk, isO_dk, ap2, consA, eNM, lcM_bb, nt]
  rw [lst16 _ rfl]
  try simp only [mp_pb, mp_bb, mp_rb, consA_pp, ap2_pp, cl0_n, cl1_n, cl2_n, cl3_n, cl4_n, cl5_n, cl6_n, cl7_n, asB_bl, asI_int, andV, orV, notV, cAnd, cOr, cNot, ifE, chM, eNM_p, toD_lst, toD_dk, Jn, frzM, lcB, dcB, itSeq_lst, itSeqD_lst, itSeqD_tup, itEnum_lst, itEnumS_lst, itEnumS_tup, itTup_tup, itStr_str, itZip_lst, itZipT_tup, itEz_lst, itRev_lst, forK_true, unp1_ok, unp2_ok, unp3_ok, unp4_ok, unp2L_ok, op_addI, L3.op_sub, op_cmp, op_eqI, op_eqS, op_inS, cb_lenL, cb_lenT, cb_lenD, cb_int2, cb_abs, cb_tupL, cb_tupT, cb_intB, cb_boolI, slM_L, slM_T, isDict_dk, asL_lst, isL_lst, revM_lst, revTM_tup, negM_int, augM_pp, isStr_str, isLst_lst, optM_some, tup0, tup1, tup2, tup3, tup4, lst0, lst1, lst2, lst3, lst4, lst5, insE_ok, isInt_int, isInt_bl, isInt_str, isInt_tup, isInt_lst, isInt_non, isInt_dk, isBl_int, isBl_bl, isBl_str, isBl_tup, isBl_lst, isBl_non, isStr_int, isStr_bl, isStr_s, isStr_tup, isStr_lst, isStr_non, isTup_int, isTup_bl, isTup_str, isTup_tup, isTup_lst, isTup_non, dLst_int, dLst_bl, dLst_str, dLst_tup, dLst_lst, dLst_non, ite_mt, ite_mf, if_true, if_false, Bool.false_eq_true, Bool.true_eq_false, Bool.not_true, Bool.not_false, Bool.or_false, Bool.or_true, Bool.false_or, Bool.true_or, Bool.and_true, Bool.and_false, Bool.true_and, Bool.false_and, ↓reduceIte, decide_true, decide_false, isB_non, isBB_non, isO_non, isB_bl, isBB_bl, isO_bl, isB_int, isBB_int, isO_int, isB_str, isBB_str, isO_str, isB_lst, isBB_lst, isO_lst, isB_tup, isBB_tup, isO_tup, isB_dk, isBB_dk, isO_dk, ap2, consA, eNM, lcM_bb]
  refine rn_dx (dr_take 16) (fun _ m6 z k => ?_)
  obtain ⟨a, ha, rfl⟩ := z
  obtain ⟨d, hd, ed⟩ := ix_mem (K := K) (L := [.non, .bl true, .bl false, .int 0, .int (-7), .int (10 ^ Int.toNat 29), .str "", .str "f A", .cel i1, .cel i2, .tup [], .tup [.int 1, .bl true], .cel i3, .cel i4, .cel i5, ntD K]) (k := a) ha
  rw [ed]
  refine rn_p ⟨?_, k1.trans k⟩
  have g0 : Gr 0 (.lst []) := .l [] (by unfold l3; simp) 0 (Nat.le_refl _)
  have g1 : Gr 0 (.lst [.str "a", .lst [.int 1]]) := .l [.str "a", .lst [.int 1]] (by unfold l3; simp) 0 (Nat.le_refl _)
  have g2 : Gr 0 (.lst [.non]) := .l [.non] (by unfold l3; simp) 0 (Nat.le_refl _)
  have g3 : Gr 0 (.dk [] []) := .d [] [] (by unfold d4; simp)
  have g4 : Gr 0 (.dk [.inr "a"] [.lst [.int 3]]) := .d _ _ (by unfold d4; simp)
  simp only [List.mem_cons, List.not_mem_nil, or_false] at hd
  have fl : ∀ x, x ∈ fl10 → Th K 0 m6 x := fun x h => .f x h
  rcases hd with rfl | rfl | rfl | rfl | rfl | rfl | rfl | rfl | rfl | rfl | rfl | rfl | rfl | rfl | rfl | rfl
  · exact fl _ (by unfold fl10; simp)
  · exact fl _ (by unfold fl10; simp)
  · exact fl _ (by unfold fl10; simp)
  · exact fl _ (by unfold fl10; simp)
  · exact fl _ (by unfold fl10; simp)
  · exact fl _ (by unfold fl10; simp)
  · exact fl _ (by unfold fl10; simp)
  · exact fl _ (by unfold fl10; simp)
  · exact .c i1 _ (k _ _ h1) g0
  · exact .c i2 _ (k _ _ h2) g1
  · exact fl _ (by unfold fl10; simp)
  · exact fl _ (by unfold fl10; simp)
  · exact .c i3 _ (k _ _ h3) g3
  · exact .c i4 _ (k _ _ h4) g4
  · exact .c i5 _ (k _ _ h5) g2
  · exact .t
end
end W
set_option Elab.async false
set_option linter.all false
set_option maxRecDepth 100000
set_option maxHeartbeats 1000000
namespace W
open PySem PySem.Spec PyProof.Rows L2 L3 He TT
local instance xdead0G : XCt := XCt.dead
section
variable {K : PySem.W.Frag} {β : Type} {m : Mem} {c : Nat}
theorem mtL_t {l : List (Addr × Bool)} (h : ∀ p ∈ l, p.2 = true) {C : Addr} (hc : C ∈ l.map (·.1)) : mtL l C = some true := by
  obtain ⟨p, hp, e⟩ := List.mem_map.mp hc
  unfold mtL
  cases q : l.find? fun p => p.1 == C with
  | none =>
    have := List.find?_eq_none.mp q p hp
    rw [e] at this
    exact absurd (beq_self_eq_true C) this
  | some p' =>
    show some p'.2 = some true
    rw [h p' (List.mem_of_find?_eq_some q)]
theorem xl_t : ∀ p ∈ xl_TermError K, p.2 = true := by
  intro p hp
  unfold xl_TermError at hp
  simp only [List.mem_cons, List.not_mem_nil, or_false] at hp
  rcases hp with rfl | rfl | rfl | rfl | rfl | rfl | rfl | rfl | rfl | rfl | rfl | rfl | rfl | rfl | rfl | rfl | rfl | rfl | rfl | rfl | rfl | rfl | rfl <;> rfl
theorem run_hd {R : Type} {mm : Addr → Option Bool} {suite : Addr → Addr → Option Addr → D → MP R} {rest : Exn3 → MP R} {e : Exn3} {P : R → Mem → Prop} (h : mm e.C = some true) (hn : e.ns ≠ []) (hs : ∀ a dx, Rn m c (suite a e.C (some dx) (.exn a e.C dx e.ns e.ds)) P) : Rn m c (hdM mm suite rest e) P := fun Q X hm q =>
  ⟨true, h, fun _ => ⟨fun a dx => hs a dx Q _ hm q, fun z => absurd z hn⟩, fun z => nomatch z⟩
theorem eqs14 {p : Nat} : lcM (pure ⟨rangeD 0 14, fun _ => True⟩) (fun k => opM (rDer (rEqA3 false)) k (.int p) >>= fun y => pure (some y)) = pure (.lst ((List.range 14).map fun k => .bl (decide (k = p)))) := by
  have e : rangeD 0 14 = (List.range 14).map fun k => D.int ((0 : Int) + (k : Nat)) := by first | rfl | (unfold rangeD; rfl)
  rw [lcM_l (l := List.range 14) (g := fun k => D.int ((0 : Int) + (k : Nat))) (f := fun k => .bl (decide (k = p))) (by rw [e]) (fun k hk => ?_) (by rw [List.length_range]; decide)]
  rw [op_eqI, mp_pb]
  have : decide ((0 : Int) + (k : Nat) = (p : Int)) = decide (k = p) := by
    by_cases h : k = p
    · rw [decide_eq_true h, decide_eq_true (by omega)]
    · rw [decide_eq_false h, decide_eq_false (by omega)]
  simp only [Bool.false_eq_true, if_false, this]
theorem op_eqB {neg : Bool} (l : List Bool) : opM (rDer (rEqA3 neg)) (.lst (l.map .bl)) (.lst (l.map .bl)) = pure (.bl (!neg)) := by
  have h := bls_cmp l
  rw [op_eq h h]
  have e : D.eqv (.lst (l.map .bl)) (.lst (l.map .bl)) = true := eqv_refl _ h.1
  rw [e]
  cases neg <;> rfl
theorem sorts14 {i : Nat} {c : Str} (h : (cs14.map fun d => decide (c = d)) = (List.range 14).map fun k => decide (k = i)) {neg : Bool} : opM (rDer (rEqA3 neg)) (.lst (cs14.map fun d => .bl (decide (c = d)))) (.lst ((List.range 14).map fun k => .bl (decide (k = i)))) = pure (.bl (!neg)) := by
  have e1 : (cs14.map fun d => D.bl (decide (c = d))) = (cs14.map fun d => decide (c = d)).map .bl := by rw [List.map_map]; rfl
  have e2 : ((List.range 14).map fun k => D.bl (decide (k = i))) = ((List.range 14).map fun k => decide (k = i)).map .bl := by rw [List.map_map]; rfl
  rw [e1, e2, h, op_eqB]
/-- the suite -/
theorem suite_ok {d pl wy : D} {i : Nat} {cc f : Str} (k : Kx K) (h15 : cc ∈ cs15) (hf : (f = "at" ∧ inT i = true ∧ cc ∈ ats) ∨ (f = "found" ∧ inT i = false ∧ cc ∈ fds)) (hs : (cs14.map fun d => decide (cc = d)) = (List.range 14).map fun k => decide (k = i))
    (hp : opM (rDer (rIxA3 K)) pl wy = pure (.int i)) (g : ∃ t, ReprOf K t (m.der d)) (a dx : Addr) :
    Rn m 0 ((andV (ap2 ((consA (pure (.exn a (ga K cc) dx [f] [d])) (pure [])) >>= cl1 (m__law_sorts (some (a, ga K cc, some dx)) K)) (eNM (lcM ((pure (.int 14)) >>= itRange) (fun k'6 => (lcB (pure true) (ap2 (pure k'6) (ap2 (pure pl) (pure wy) (opM (rDer (rIxA3 K)))) (opM (rDer (rEqA3 false)))))))) (opM (rDer (rEqA3 false)))) (ap2 ((consA ((consA (pure (.exn a (ga K cc) dx [f] [d])) (consA (ap2 (pure pl) (pure wy) (opM (rDer (rIxA3 K)))) (pure []))) >>= cl2 (m__law_field (some (a, ga K cc, some dx)) K)) (pure [])) >>= cbM (cDer (rReprX3 K))) ((consA (pure d) (pure [])) >>= cbM (cDer (rReprX3 K))) (opM (rDer (rEqA3 false))))) >>= fun d => (pure (Ctl.rt d) : MP (Ctl Unit))) (fun r m' => r = Ctl.rt (.bl true) ∧ m' = m) := by
  have ef : Ef K (some (a, ga K cc, some dx)) cc f d (.exn a (ga K cc) dx [f] [d]) := .n a dx rfl
  have e1 := law_sorts k h15 ef.er
  have e2 := law_field ef hf
  have e3 : itRange (.int 14) = pure ⟨rangeD 0 14, fun _ => True⟩ := itRange_nat (j := 14) (by decide)
  simp only [mp_pb, mp_bb, mp_rb, consA_pp, ap2_pp, cl0_n, cl1_n, cl2_n, cl3_n, cl4_n, cl5_n, cl6_n, cl7_n, asB_bl, asI_int, andV, orV, notV, cAnd, cOr, cNot, ifE, chM, eNM_p, toD_lst, toD_dk, Jn, frzM, lcB, dcB, itSeq_lst, itSeqD_lst, itSeqD_tup, itEnum_lst, itEnumS_lst, itEnumS_tup, itTup_tup, itStr_str, itZip_lst, itZipT_tup, itEz_lst, itRev_lst, forK_true, unp1_ok, unp2_ok, unp3_ok, unp4_ok, unp2L_ok, op_addI, L3.op_sub, op_cmp, op_eqI, op_eqS, op_inS, cb_lenL, cb_lenT, cb_lenD, cb_int2, cb_abs, cb_tupL, cb_tupT, cb_intB, cb_boolI, slM_L, slM_T, isDict_dk, asL_lst, isL_lst, revM_lst, revTM_tup, negM_int, augM_pp, isStr_str, isLst_lst, optM_some, tup0, tup1, tup2, tup3, tup4, lst0, lst1, lst2, lst3, lst4, lst5, insE_ok, isInt_int, isInt_bl, isInt_str, isInt_tup, isInt_lst, isInt_non, isInt_dk, isBl_int, isBl_bl, isBl_str, isBl_tup, isBl_lst, isBl_non, isStr_int, isStr_bl, isStr_s, isStr_tup, isStr_lst, isStr_non, isTup_int, isTup_bl, isTup_str, isTup_tup, isTup_lst, isTup_non, dLst_int, dLst_bl, dLst_str, dLst_tup, dLst_lst, dLst_non, ite_mt, ite_mf, if_true, if_false, Bool.false_eq_true, Bool.true_eq_false, Bool.not_true, Bool.not_false, Bool.or_false, Bool.or_true, Bool.false_or, Bool.true_or, Bool.and_true, Bool.and_false, Bool.true_and, Bool.false_and, ↓reduceIte, decide_true, decide_false, isB_non, isBB_non, isO_non, isB_bl, isBB_bl, isO_bl, isB_int, isBB_int, isO_int, isB_str, isBB_str, isO_str, isB_lst, isBB_lst, isO_lst, isB_tup, isBB_tup, isO_tup, isB_dk, isBB_dk, isO_dk, hp, e1, e2, e3, eqs14, sorts14 hs]
  exact rn_same g (rn_p ⟨rfl, rfl⟩)
theorem law_caught {d : D} {w : Int} (k : Kx K) (hw : w = 0 ∨ w = 1 ∨ w = 2 ∨ w = 3 ∨ w = 4) (g : ∃ t, ReprOf K t (m.der d)) : Rn m 0 (m__law_caught K (.int w) d) (fun r m' => r = .bl true ∧ m' = m) := by
  have fin_ : ∀ {f : Str} {i : Nat} {cc : Str} {w : Int}, (hi : i < 14) → ms14[i]?.map (fun p => (p.1, p.2.1)) = some (cc, f) → ga K cc ∈ (xl_TermError K).map (·.1) → opM (rDer (rIxA3 K)) (.lst [.int 0, .int 6, .int 8, .int 9, .int 13]) (.int w) = pure (.int i) →
      Rn m 0 (tryM (MP.raise ⟨ga K cc, [f], [d]⟩) (hdM (mtL (xl_TermError K)) (fun a C d' x => ((andV (ap2 ((consA (pure x) (pure [])) >>= cl1 (m__law_sorts (some (a, C, d')) K)) (eNM (lcM ((pure (.int 14)) >>= itRange) (fun k'6 => (lcB (pure true) (ap2 (pure k'6) (ap2 (pure (.lst [.int 0, .int 6, .int 8, .int 9, .int 13])) (pure (.int w)) (opM (rDer (rIxA3 K)))) (opM (rDer (rEqA3 false)))))))) (opM (rDer (rEqA3 false)))) (ap2 ((consA ((consA (pure x) (consA (ap2 (pure (.lst [.int 0, .int 6, .int 8, .int 9, .int 13])) (pure (.int w)) (opM (rDer (rIxA3 K)))) (pure []))) >>= cl2 (m__law_field (some (a, C, d')) K)) (pure [])) >>= cbM (cDer (rReprX3 K))) ((consA (pure d) (pure [])) >>= cbM (cDer (rReprX3 K))) (opM (rDer (rEqA3 false))))) >>= fun d => (pure (Ctl.rt d) : MP (Ctl Unit)))) (fun e => MP.raise e))
        (fun c => match c with | .nx s => (MP.bad : MP D) | .rt d => pure d | .bk => MP.bad | .ct => MP.bad)) (fun r m' => r = .bl true ∧ m' = m) := by
    intro f i cc w hi em hx hp
    obtain ⟨c', f', mm, e1, h14, h15, h36, hf, hs⟩ := at14 hi
    rw [e1] at em
    cases em
    rw [tryM_raise]
    refine rn_b (c1 := 0) (run_hd (mtL_t xl_t hx) (List.cons_ne_nil _ _) fun a dx => suite_ok k h15 hf hs hp g a dx) (fun r m' z => ?_) (by omega)
    obtain ⟨rfl, rfl⟩ := z
    exact rn_p ⟨rfl, rfl⟩
  have hx : ∀ x, x ∈ ["NoOrder", "NotOrdered", "NoStep", "Unfinished", "NoModel"] → ga K x ∈ (xl_TermError K).map (·.1) := fun x hx => by
    unfold xl_TermError
    simp only [List.mem_cons, List.not_mem_nil, or_false] at hx
    rcases hx with rfl | rfl | rfl | rfl | rfl <;> simp
  have px : ∀ {j i : Nat}, [D.int 0, .int 6, .int 8, .int 9, .int 13][j]? = some (.int i) → opM (rDer (rIxA3 K)) (.lst [.int 0, .int 6, .int 8, .int 9, .int 13]) (.int (j : Nat)) = pure (.int i) := fun h => op_ixL (atI_nat h)
  unfold m__law_caught
  rcases hw with rfl | rfl | rfl | rfl | rfl
  · have R := fin_ (w := 0) (i := 0) (cc := "NoOrder") (f := "found") (by decide) rfl (hx _ (by simp)) (px (j := 0) rfl)
    simp only [mp_pb, mp_bb, mp_rb, consA_pp, ap2_pp, cl0_n, cl1_n, cl2_n, cl3_n, cl4_n, cl5_n, cl6_n, cl7_n, asB_bl, asI_int, chM, eNM_p, toD_lst, toD_dk, Jn, frzM, lcB, dcB, itSeq_lst, itSeqD_lst, itSeqD_tup, itEnum_lst, itEnumS_lst, itEnumS_tup, itTup_tup, itStr_str, itZip_lst, itZipT_tup, itEz_lst, itRev_lst, forK_true, unp1_ok, unp2_ok, unp3_ok, unp4_ok, unp2L_ok, op_addI, L3.op_sub, op_cmp, op_eqI, op_eqS, op_inS, cb_lenL, cb_lenT, cb_lenD, cb_int2, cb_abs, cb_tupL, cb_tupT, cb_intB, cb_boolI, slM_L, slM_T, isDict_dk, asL_lst, isL_lst, revM_lst, revTM_tup, negM_int, augM_pp, isStr_str, isLst_lst, optM_some, tup0, tup1, tup2, tup3, tup4, lst0, lst1, lst2, lst3, lst4, lst5, insE_ok, isInt_int, isInt_bl, isInt_str, isInt_tup, isInt_lst, isInt_non, isInt_dk, isBl_int, isBl_bl, isBl_str, isBl_tup, isBl_lst, isBl_non, isStr_int, isStr_bl, isStr_s, isStr_tup, isStr_lst, isStr_non, isTup_int, isTup_bl, isTup_str, isTup_tup, isTup_lst, isTup_non, dLst_int, dLst_bl, dLst_str, dLst_tup, dLst_lst, dLst_non, ite_mt, ite_mf, if_true, if_false, Bool.false_eq_true, Bool.true_eq_false, Bool.not_true, Bool.not_false, Bool.or_false, Bool.or_true, Bool.false_or, Bool.true_or, Bool.and_true, Bool.and_false, Bool.true_and, Bool.false_and, ↓reduceIte, decide_true, decide_false, isB_non, isBB_non, isO_non, isB_bl, isBB_bl, isO_bl, isB_int, isBB_int, isO_int, isB_str, isBB_str, isO_str, isB_lst, isBB_lst, isO_lst, isB_tup, isBB_tup, isO_tup, isB_dk, isBB_dk, isO_dk, Int.reduceEq, decide_true, decide_false, eq_self] at R
    simp only [mp_pb, mp_bb, mp_rb, consA_pp, ap2_pp, cl0_n, cl1_n, cl2_n, cl3_n, cl4_n, cl5_n, cl6_n, cl7_n, asB_bl, asI_int, chM, eNM_p, toD_lst, toD_dk, Jn, frzM, lcB, dcB, itSeq_lst, itSeqD_lst, itSeqD_tup, itEnum_lst, itEnumS_lst, itEnumS_tup, itTup_tup, itStr_str, itZip_lst, itZipT_tup, itEz_lst, itRev_lst, forK_true, unp1_ok, unp2_ok, unp3_ok, unp4_ok, unp2L_ok, op_addI, L3.op_sub, op_cmp, op_eqI, op_eqS, op_inS, cb_lenL, cb_lenT, cb_lenD, cb_int2, cb_abs, cb_tupL, cb_tupT, cb_intB, cb_boolI, slM_L, slM_T, isDict_dk, asL_lst, isL_lst, revM_lst, revTM_tup, negM_int, augM_pp, isStr_str, isLst_lst, optM_some, tup0, tup1, tup2, tup3, tup4, lst0, lst1, lst2, lst3, lst4, lst5, insE_ok, isInt_int, isInt_bl, isInt_str, isInt_tup, isInt_lst, isInt_non, isInt_dk, isBl_int, isBl_bl, isBl_str, isBl_tup, isBl_lst, isBl_non, isStr_int, isStr_bl, isStr_s, isStr_tup, isStr_lst, isStr_non, isTup_int, isTup_bl, isTup_str, isTup_tup, isTup_lst, isTup_non, dLst_int, dLst_bl, dLst_str, dLst_tup, dLst_lst, dLst_non, ite_mt, ite_mf, if_true, if_false, Bool.false_eq_true, Bool.true_eq_false, Bool.not_true, Bool.not_false, Bool.or_false, Bool.or_true, Bool.false_or, Bool.true_or, Bool.and_true, Bool.and_false, Bool.true_and, Bool.false_and, ↓reduceIte, decide_true, decide_false, isB_non, isBB_non, isO_non, isB_bl, isBB_bl, isO_bl, isB_int, isBB_int, isO_int, isB_str, isBB_str, isO_str, isB_lst, isBB_lst, isO_lst, isB_tup, isBB_tup, isO_tup, isB_dk, isBB_dk, isO_dk, Int.reduceEq, decide_true, decide_false, eq_self]
    exact R
  · have R := fin_ (w := 1) (i := 6) (cc := "NotOrdered") (f := "at") (by decide) rfl (hx _ (by simp)) (px (j := 1) rfl)
    simp only [mp_pb, mp_bb, mp_rb, consA_pp, ap2_pp, cl0_n, cl1_n, cl2_n, cl3_n, cl4_n, cl5_n, cl6_n, cl7_n, asB_bl, asI_int, chM, eNM_p, toD_lst, toD_dk, Jn, frzM, lcB, dcB, itSeq_lst, itSeqD_lst, itSeqD_tup, itEnum_lst, itEnumS_lst, itEnumS_tup, itTup_tup, itStr_str, itZip_lst, itZipT_tup, itEz_lst, itRev_lst, forK_true, unp1_ok, unp2_ok, unp3_ok, unp4_ok, unp2L_ok, op_addI, L3.op_sub, op_cmp, op_eqI, op_eqS, op_inS, cb_lenL, cb_lenT, cb_lenD, cb_int2, cb_abs, cb_tupL, cb_tupT, cb_intB, cb_boolI, slM_L, slM_T, isDict_dk, asL_lst, isL_lst, revM_lst, revTM_tup, negM_int, augM_pp, isStr_str, isLst_lst, optM_some, tup0, tup1, tup2, tup3, tup4, lst0, lst1, lst2, lst3, lst4, lst5, insE_ok, isInt_int, isInt_bl, isInt_str, isInt_tup, isInt_lst, isInt_non, isInt_dk, isBl_int, isBl_bl, isBl_str, isBl_tup, isBl_lst, isBl_non, isStr_int, isStr_bl, isStr_s, isStr_tup, isStr_lst, isStr_non, isTup_int, isTup_bl, isTup_str, isTup_tup, isTup_lst, isTup_non, dLst_int, dLst_bl, dLst_str, dLst_tup, dLst_lst, dLst_non, ite_mt, ite_mf, if_true, if_false, Bool.false_eq_true, Bool.true_eq_false, Bool.not_true, Bool.not_false, Bool.or_false, Bool.or_true, Bool.false_or, Bool.true_or, Bool.and_true, Bool.and_false, Bool.true_and, Bool.false_and, ↓reduceIte, decide_true, decide_false, isB_non, isBB_non, isO_non, isB_bl, isBB_bl, isO_bl, isB_int, isBB_int, isO_int, isB_str, isBB_str, isO_str, isB_lst, isBB_lst, isO_lst, isB_tup, isBB_tup, isO_tup, isB_dk, isBB_dk, isO_dk, Int.reduceEq, decide_true, decide_false, eq_self] at R
    simp only [mp_pb, mp_bb, mp_rb, consA_pp, ap2_pp, cl0_n, cl1_n, cl2_n, cl3_n, cl4_n, cl5_n, cl6_n, cl7_n, asB_bl, asI_int, chM, eNM_p, toD_lst, toD_dk, Jn, frzM, lcB, dcB, itSeq_lst, itSeqD_lst, itSeqD_tup, itEnum_lst, itEnumS_lst, itEnumS_tup, itTup_tup, itStr_str, itZip_lst, itZipT_tup, itEz_lst, itRev_lst, forK_true, unp1_ok, unp2_ok, unp3_ok, unp4_ok, unp2L_ok, op_addI, L3.op_sub, op_cmp, op_eqI, op_eqS, op_inS, cb_lenL, cb_lenT, cb_lenD, cb_int2, cb_abs, cb_tupL, cb_tupT, cb_intB, cb_boolI, slM_L, slM_T, isDict_dk, asL_lst, isL_lst, revM_lst, revTM_tup, negM_int, augM_pp, isStr_str, isLst_lst, optM_some, tup0, tup1, tup2, tup3, tup4, lst0, lst1, lst2, lst3, lst4, lst5, insE_ok, isInt_int, isInt_bl, isInt_str, isInt_tup, isInt_lst, isInt_non, isInt_dk, isBl_int, isBl_bl, isBl_str, isBl_tup, isBl_lst, isBl_non, isStr_int, isStr_bl, isStr_s, isStr_tup, isStr_lst, isStr_non, isTup_int, isTup_bl, isTup_str, isTup_tup, isTup_lst, isTup_non, dLst_int, dLst_bl, dLst_str, dLst_tup, dLst_lst, dLst_non, ite_mt, ite_mf, if_true, if_false, Bool.false_eq_true, Bool.true_eq_false, Bool.not_true, Bool.not_false, Bool.or_false, Bool.or_true, Bool.false_or, Bool.true_or, Bool.and_true, Bool.and_false, Bool.true_and, Bool.false_and, ↓reduceIte, decide_true, decide_false, isB_non, isBB_non, isO_non, isB_bl, isBB_bl, isO_bl, isB_int, isBB_int, isO_int, isB_str, isBB_str, isO_str, isB_lst, isBB_lst, isO_lst, isB_tup, isBB_tup, isO_tup, isB_dk, isBB_dk, isO_dk, Int.reduceEq, decide_true, decide_false, eq_self]
    exact R
  · have R := fin_ (w := 2) (i := 8) (cc := "NoStep") (f := "at") (by decide) rfl (hx _ (by simp)) (px (j := 2) rfl)
    simp only [mp_pb, mp_bb, mp_rb, consA_pp, ap2_pp, cl0_n, cl1_n, cl2_n, cl3_n, cl4_n, cl5_n, cl6_n, cl7_n, asB_bl, asI_int, chM, eNM_p, toD_lst, toD_dk, Jn, frzM, lcB, dcB, itSeq_lst, itSeqD_lst, itSeqD_tup, itEnum_lst, itEnumS_lst, itEnumS_tup, itTup_tup, itStr_str, itZip_lst, itZipT_tup, itEz_lst, itRev_lst, forK_true, unp1_ok, unp2_ok, unp3_ok, unp4_ok, unp2L_ok, op_addI, L3.op_sub, op_cmp, op_eqI, op_eqS, op_inS, cb_lenL, cb_lenT, cb_lenD, cb_int2, cb_abs, cb_tupL, cb_tupT, cb_intB, cb_boolI, slM_L, slM_T, isDict_dk, asL_lst, isL_lst, revM_lst, revTM_tup, negM_int, augM_pp, isStr_str, isLst_lst, optM_some, tup0, tup1, tup2, tup3, tup4, lst0, lst1, lst2, lst3, lst4, lst5, insE_ok, isInt_int, isInt_bl, isInt_str, isInt_tup, isInt_lst, isInt_non, isInt_dk, isBl_int, isBl_bl, isBl_str, isBl_tup, isBl_lst, isBl_non, isStr_int, isStr_bl, isStr_s, isStr_tup, isStr_lst, isStr_non, isTup_int, isTup_bl, isTup_str, isTup_tup, isTup_lst, isTup_non, dLst_int, dLst_bl, dLst_str, dLst_tup, dLst_lst, dLst_non, ite_mt, ite_mf, if_true, if_false, Bool.false_eq_true, Bool.true_eq_false, Bool.not_true, Bool.not_false, Bool.or_false, Bool.or_true, Bool.false_or, Bool.true_or, Bool.and_true, Bool.and_false, Bool.true_and, Bool.false_and, ↓reduceIte, decide_true, decide_false, isB_non, isBB_non, isO_non, isB_bl, isBB_bl, isO_bl, isB_int, isBB_int, isO_int, isB_str, isBB_str, isO_str, isB_lst, isBB_lst, isO_lst, isB_tup, isBB_tup, isO_tup, isB_dk, isBB_dk, isO_dk, Int.reduceEq, decide_true, decide_false, eq_self] at R
    simp only [mp_pb, mp_bb, mp_rb, consA_pp, ap2_pp, cl0_n, cl1_n, cl2_n, cl3_n, cl4_n, cl5_n, cl6_n, cl7_n, asB_bl, asI_int, chM, eNM_p, toD_lst, toD_dk, Jn, frzM, lcB, dcB, itSeq_lst, itSeqD_lst, itSeqD_tup, itEnum_lst, itEnumS_lst, itEnumS_tup, itTup_tup, itStr_str, itZip_lst, itZipT_tup, itEz_lst, itRev_lst, forK_true, unp1_ok, unp2_ok, unp3_ok, unp4_ok, unp2L_ok, op_addI, L3.op_sub, op_cmp, op_eqI, op_eqS, op_inS, cb_lenL, cb_lenT, cb_lenD, cb_int2, cb_abs, cb_tupL, cb_tupT, cb_intB, cb_boolI, slM_L, slM_T, isDict_dk, asL_lst, isL_lst, revM_lst, revTM_tup, negM_int, augM_pp, isStr_str, isLst_lst, optM_some, tup0, tup1, tup2, tup3, tup4, lst0, lst1, lst2, lst3, lst4, lst5, insE_ok, isInt_int, isInt_bl, isInt_str, isInt_tup, isInt_lst, isInt_non, isInt_dk, isBl_int, isBl_bl, isBl_str, isBl_tup, isBl_lst, isBl_non, isStr_int, isStr_bl, isStr_s, isStr_tup, isStr_lst, isStr_non, isTup_int, isTup_bl, isTup_str, isTup_tup, isTup_lst, isTup_non, dLst_int, dLst_bl, dLst_str, dLst_tup, dLst_lst, dLst_non, ite_mt, ite_mf, if_true, if_false, Bool.false_eq_true, Bool.true_eq_false, Bool.not_true, Bool.not_false, Bool.or_false, Bool.or_true, Bool.false_or, Bool.true_or, Bool.and_true, Bool.and_false, Bool.true_and, Bool.false_and, ↓reduceIte, decide_true, decide_false, isB_non, isBB_non, isO_non, isB_bl, isBB_bl, isO_bl, isB_int, isBB_int, isO_int, isB_str, isBB_str, isO_str, isB_lst, isBB_lst, isO_lst, isB_tup, isBB_tup, isO_tup, isB_dk, isBB_dk, isO_dk, Int.reduceEq, decide_true, decide_false, eq_self]
    exact R
  · have R := fin_ (w := 3) (i := 9) (cc := "Unfinished") (f := "found") (by decide) rfl (hx _ (by simp)) (px (j := 3) rfl)
    simp only [mp_pb, mp_bb, mp_rb, consA_pp, ap2_pp, cl0_n, cl1_n, cl2_n, cl3_n, cl4_n, cl5_n, cl6_n, cl7_n, asB_bl, asI_int, chM, eNM_p, toD_lst, toD_dk, Jn, frzM, lcB, dcB, itSeq_lst, itSeqD_lst, itSeqD_tup, itEnum_lst, itEnumS_lst, itEnumS_tup, itTup_tup, itStr_str, itZip_lst, itZipT_tup, itEz_lst, itRev_lst, forK_true, unp1_ok, unp2_ok, unp3_ok, unp4_ok, unp2L_ok, op_addI, L3.op_sub, op_cmp, op_eqI, op_eqS, op_inS, cb_lenL, cb_lenT, cb_lenD, cb_int2, cb_abs, cb_tupL, cb_tupT, cb_intB, cb_boolI, slM_L, slM_T, isDict_dk, asL_lst, isL_lst, revM_lst, revTM_tup, negM_int, augM_pp, isStr_str, isLst_lst, optM_some, tup0, tup1, tup2, tup3, tup4, lst0, lst1, lst2, lst3, lst4, lst5, insE_ok, isInt_int, isInt_bl, isInt_str, isInt_tup, isInt_lst, isInt_non, isInt_dk, isBl_int, isBl_bl, isBl_str, isBl_tup, isBl_lst, isBl_non, isStr_int, isStr_bl, isStr_s, isStr_tup, isStr_lst, isStr_non, isTup_int, isTup_bl, isTup_str, isTup_tup, isTup_lst, isTup_non, dLst_int, dLst_bl, dLst_str, dLst_tup, dLst_lst, dLst_non, ite_mt, ite_mf, if_true, if_false, Bool.false_eq_true, Bool.true_eq_false, Bool.not_true, Bool.not_false, Bool.or_false, Bool.or_true, Bool.false_or, Bool.true_or, Bool.and_true, Bool.and_false, Bool.true_and, Bool.false_and, ↓reduceIte, decide_true, decide_false, isB_non, isBB_non, isO_non, isB_bl, isBB_bl, isO_bl, isB_int, isBB_int, isO_int, isB_str, isBB_str, isO_str, isB_lst, isBB_lst, isO_lst, isB_tup, isBB_tup, isO_tup, isB_dk, isBB_dk, isO_dk, Int.reduceEq, decide_true, decide_false, eq_self] at R
    simp only [mp_pb, mp_bb, mp_rb, consA_pp, ap2_pp, cl0_n, cl1_n, cl2_n, cl3_n, cl4_n, cl5_n, cl6_n, cl7_n, asB_bl, asI_int, chM, eNM_p, toD_lst, toD_dk, Jn, frzM, lcB, dcB, itSeq_lst, itSeqD_lst, itSeqD_tup, itEnum_lst, itEnumS_lst, itEnumS_tup, itTup_tup, itStr_str, itZip_lst, itZipT_tup, itEz_lst, itRev_lst, forK_true, unp1_ok, unp2_ok, unp3_ok, unp4_ok, unp2L_ok, op_addI, L3.op_sub, op_cmp, op_eqI, op_eqS, op_inS, cb_lenL, cb_lenT, cb_lenD, cb_int2, cb_abs, cb_tupL, cb_tupT, cb_intB, cb_boolI, slM_L, slM_T, isDict_dk, asL_lst, isL_lst, revM_lst, revTM_tup, negM_int, augM_pp, isStr_str, isLst_lst, optM_some, tup0, tup1, tup2, tup3, tup4, lst0, lst1, lst2, lst3, lst4, lst5, insE_ok, isInt_int, isInt_bl, isInt_str, isInt_tup, isInt_lst, isInt_non, isInt_dk, isBl_int, isBl_bl, isBl_str, isBl_tup, isBl_lst, isBl_non, isStr_int, isStr_bl, isStr_s, isStr_tup, isStr_lst, isStr_non, isTup_int, isTup_bl, isTup_str, isTup_tup, isTup_lst, isTup_non, dLst_int, dLst_bl, dLst_str, dLst_tup, dLst_lst, dLst_non, ite_mt, ite_mf, if_true, if_false, Bool.false_eq_true, Bool.true_eq_false, Bool.not_true, Bool.not_false, Bool.or_false, Bool.or_true, Bool.false_or, Bool.true_or, Bool.and_true, Bool.and_false, Bool.true_and, Bool.false_and, ↓reduceIte, decide_true, decide_false, isB_non, isBB_non, isO_non, isB_bl, isBB_bl, isO_bl, isB_int, isBB_int, isO_int, isB_str, isBB_str, isO_str, isB_lst, isBB_lst, isO_lst, isB_tup, isBB_tup, isO_tup, isB_dk, isBB_dk, isO_dk, Int.reduceEq, decide_true, decide_false, eq_self]
    exact R
  · have R := fin_ (w := 4) (i := 13) (cc := "NoModel") (f := "found") (by decide) rfl (hx _ (by simp)) (px (j := 4) rfl)
    simp only [mp_pb, mp_bb, mp_rb, consA_pp, ap2_pp, cl0_n, cl1_n, cl2_n, cl3_n, cl4_n, cl5_n, cl6_n, cl7_n, asB_bl, asI_int, chM, eNM_p, toD_lst, toD_dk, Jn, frzM, lcB, dcB, itSeq_lst, itSeqD_lst, itSeqD_tup, itEnum_lst, itEnumS_lst, itEnumS_tup, itTup_tup, itStr_str, itZip_lst, itZipT_tup, itEz_lst, itRev_lst, forK_true, unp1_ok, unp2_ok, unp3_ok, unp4_ok, unp2L_ok, op_addI, L3.op_sub, op_cmp, op_eqI, op_eqS, op_inS, cb_lenL, cb_lenT, cb_lenD, cb_int2, cb_abs, cb_tupL, cb_tupT, cb_intB, cb_boolI, slM_L, slM_T, isDict_dk, asL_lst, isL_lst, revM_lst, revTM_tup, negM_int, augM_pp, isStr_str, isLst_lst, optM_some, tup0, tup1, tup2, tup3, tup4, lst0, lst1, lst2, lst3, lst4, lst5, insE_ok, isInt_int, isInt_bl, isInt_str, isInt_tup, isInt_lst, isInt_non, isInt_dk, isBl_int, isBl_bl, isBl_str, isBl_tup, isBl_lst, isBl_non, isStr_int, isStr_bl, isStr_s, isStr_tup, isStr_lst, isStr_non, isTup_int, isTup_bl, isTup_str, isTup_tup, isTup_lst, isTup_non, dLst_int, dLst_bl, dLst_str, dLst_tup, dLst_lst, dLst_non, ite_mt, ite_mf, if_true, if_false, Bool.false_eq_true, Bool.true_eq_false, Bool.not_true, Bool.not_false, Bool.or_false, Bool.or_true, Bool.false_or, Bool.true_or, Bool.and_true, Bool.and_false, Bool.true_and, Bool.false_and, ↓reduceIte, decide_true, decide_false, isB_non, isBB_non, isO_non, isB_bl, isBB_bl, isO_bl, isB_int, isBB_int, isO_int, isB_str, isBB_str, isO_str, isB_lst, isBB_lst, isO_lst, isB_tup, isBB_tup, isO_tup, isB_dk, isBB_dk, isO_dk, Int.reduceEq, decide_true, decide_false, eq_self] at R
    simp only [mp_pb, mp_bb, mp_rb, consA_pp, ap2_pp, cl0_n, cl1_n, cl2_n, cl3_n, cl4_n, cl5_n, cl6_n, cl7_n, asB_bl, asI_int, chM, eNM_p, toD_lst, toD_dk, Jn, frzM, lcB, dcB, itSeq_lst, itSeqD_lst, itSeqD_tup, itEnum_lst, itEnumS_lst, itEnumS_tup, itTup_tup, itStr_str, itZip_lst, itZipT_tup, itEz_lst, itRev_lst, forK_true, unp1_ok, unp2_ok, unp3_ok, unp4_ok, unp2L_ok, op_addI, L3.op_sub, op_cmp, op_eqI, op_eqS, op_inS, cb_lenL, cb_lenT, cb_lenD, cb_int2, cb_abs, cb_tupL, cb_tupT, cb_intB, cb_boolI, slM_L, slM_T, isDict_dk, asL_lst, isL_lst, revM_lst, revTM_tup, negM_int, augM_pp, isStr_str, isLst_lst, optM_some, tup0, tup1, tup2, tup3, tup4, lst0, lst1, lst2, lst3, lst4, lst5, insE_ok, isInt_int, isInt_bl, isInt_str, isInt_tup, isInt_lst, isInt_non, isInt_dk, isBl_int, isBl_bl, isBl_str, isBl_tup, isBl_lst, isBl_non, isStr_int, isStr_bl, isStr_s, isStr_tup, isStr_lst, isStr_non, isTup_int, isTup_bl, isTup_str, isTup_tup, isTup_lst, isTup_non, dLst_int, dLst_bl, dLst_str, dLst_tup, dLst_lst, dLst_non, ite_mt, ite_mf, if_true, if_false, Bool.false_eq_true, Bool.true_eq_false, Bool.not_true, Bool.not_false, Bool.or_false, Bool.or_true, Bool.false_or, Bool.true_or, Bool.and_true, Bool.and_false, Bool.true_and, Bool.false_and, ↓reduceIte, decide_true, decide_false, isB_non, isBB_non, isO_non, isB_bl, isBB_bl, isO_bl, isB_int, isBB_int, isO_int, isB_str, isBB_str, isO_str, isB_lst, isBB_lst, isO_lst, isB_tup, isBB_tup, isO_tup, isB_dk, isBB_dk, isO_dk, Int.reduceEq, decide_true, decide_false, eq_self]
    exact R
end
end W
set_option Elab.async false
set_option linter.all false
set_option maxRecDepth 100000
set_option maxHeartbeats 2000000
namespace W
open PySem PySem.Spec PyProof.Rows L2 L3 He TT
local instance xdead0H : XCt := XCt.dead
section
variable {K : PySem.W.Frag} {β : Type} {m : Mem} {c : Nat}
/-- a comprehension of truths that changes what is shared -/
theorem rn_lcM {items : List D} {b : D → MP (Option D)} (I : Nat → Mem → Prop) (hb : ∀ k d m, items[k]? = some d → I k m → Rn m 0 (b d) (fun o m' => o = some (.bl true) ∧ I (k + 1) m')) (h0 : I 0 m) (hz : items.length ≤ 1000) :
    Rn m 0 (lcM (pure ⟨items, fun _ => True⟩) b) (fun o m' => o = .lst (List.replicate items.length (.bl true)) ∧ I items.length m') := by
  have big : sizeLine = 16777216 := rfl
  have go : ∀ (l : List D) (k : Nat) (m : Mem), items.drop k = l → k ≤ items.length → I k m → Rn m 0 (lcK (fun _ => True) b l (List.replicate k (.bl true))) (fun r m' => r = List.replicate items.length (.bl true) ∧ I items.length m') := by
    intro l
    induction l with
    | nil =>
      intro k m e hk h
      have : k = items.length := by
        have := congrArg List.length e
        rw [List.length_drop, List.length_nil] at this
        omega
      subst this
      unfold lcK
      rw [chk_true, mp_pb]
      exact rn_p ⟨rfl, h⟩
    | cons d l ih =>
      intro k m e hk h
      have hk' : k < items.length := by
        have := congrArg List.length e
        rw [List.length_drop, List.length_cons] at this
        omega
      have e1 := List.drop_eq_getElem_cons hk'
      rw [e] at e1
      obtain ⟨e2, e3⟩ := List.cons.inj e1
      unfold lcK
      rw [chk_true, mp_pb]
      refine rn_b (c1 := 0) (rn_n (hb k d m (by rw [List.getElem?_eq_getElem hk', e2]) h)) (fun o m' z => ?_) (by omega)
      obtain ⟨rfl, h'⟩ := z
      show Rn m' _ (MP.chk (fun _ => (List.replicate k (D.bl true)).length < sizeLine) >>= fun _ => lcK _ b l (List.replicate k (.bl true) ++ [.bl true])) _
      rw [chk_iff (by rw [List.length_replicate]; omega), mp_pb, ← List.replicate_succ']
      exact ih (k + 1) m' e3.symm hk' h'
  unfold lcM
  rw [mp_pb]
  refine rn_b (c1 := 0) (go items 0 m (by rw [List.drop_zero]) (Nat.zero_le _) h0) (fun r m' z => ?_) (by omega)
  obtain ⟨rfl, h⟩ := z
  exact rn_p ⟨rfl, h⟩
theorem bl_cmp {b : Bool} : (D.bl b).cmp := ⟨rfl, Nat.zero_le _⟩
theorem op_inL {neg : Bool} {x : D} {ds : List D} (h1 : x.cmp) (h2 : (D.lst ds).cmp) (hx : ∀ m : Mem, m.der x = x) : opM (rDer (rInA3 neg)) x (.lst ds) = pure (.bl (if neg then !ds.any (fun z => D.eqv z x) else ds.any (fun z => D.eqv z x))) := MP.ext fun m Q X => by
  show rInA3 neg (m.der x) (m.der (.lst ds)) m Q ↔ Q _ m
  rw [hx]
  exact ⟨fun q => q.2.2, fun q => ⟨h1, h2, q⟩⟩
theorem eqv_bl (a b : Bool) : D.eqv (.bl a) (.bl b) = (a == b) := by cases a <;> cases b <;> rfl
theorem in_bls {neg : Bool} (b : Bool) (l : List Bool) : opM (rDer (rInA3 neg)) (.bl b) (.lst (l.map .bl)) = pure (.bl (if neg then !decide (b ∈ l) else decide (b ∈ l))) := by
  rw [op_inL bl_cmp (bls_cmp l) (fun _ => rfl)]
  have e : (l.map D.bl).any (fun z => D.eqv z (.bl b)) = decide (b ∈ l) := by
    rw [List.any_map, Bool.eq_iff_iff, List.any_eq_true, decide_eq_true_eq]
    constructor
    · rintro ⟨x, hx, e⟩
      have e' : D.eqv (.bl x) (.bl b) = true := e
      rw [eqv_bl] at e'
      rw [← beq_iff_eq.mp e']
      exact hx
    · intro h
      exact ⟨b, h, by show D.eqv (.bl b) (.bl b) = true; rw [eqv_bl]; exact beq_self_eq_true b⟩
  rw [e]
theorem others_no {c : Str} (h : c ∉ cs36) : opM (rDer (rInA3 false)) (.bl true) (.lst (cs36.map fun d => .bl (decide (c = d)))) = pure (.bl false) := by
  have e1 : (cs36.map fun d => D.bl (decide (c = d))) = (cs36.map fun d => decide (c = d)).map .bl := by rw [List.map_map]; rfl
  rw [e1, in_bls]
  have : decide (true ∈ cs36.map fun d => decide (c = d)) = false := decide_eq_false fun z => by
    obtain ⟨d, hd, e⟩ := List.mem_map.mp z
    exact h (by rw [of_decide_eq_true e]; exact hd)
  rw [this]; rfl
theorem last_no (n : Nat) : opM (rDer (rInA3 true)) (.bl false) (.lst (List.replicate n (.bl true))) = pure (.bl true) := by
  have e1 : List.replicate n (D.bl true) = (List.replicate n true).map .bl := by rw [List.map_replicate]
  rw [e1, in_bls]
  have : decide (false ∈ List.replicate n true) = false := decide_eq_false fun z => by
    have := List.eq_of_mem_replicate z
    cases this
  rw [this]; rfl
/-- the looks at one error -/
theorem rn_look {cc f : Str} {e thing : D} {i : Nat} {nx : Unit → MP D} {P : D → Mem → Prop} (k : Kx K) (h14 : cc ∈ cs14) (h15 : cc ∈ cs15) (h36 : cc ∉ cs36) (hf : (f = "at" ∧ inT i = true ∧ cc ∈ ats) ∨ (f = "found" ∧ inT i = false ∧ cc ∈ fds))
    (hs : (cs14.map fun d => decide (cc = d)) = (List.range 14).map fun k => decide (k = i)) (ef : Ef K none cc f thing e) (g : ∃ t, ReprOf K t (m.der thing)) (hn : Rn m c (nx ()) P) :
    Rn m c ((cOr (ap2 ((consA (pure e) (pure [])) >>= cl1 (m__law_sorts none K)) (eNM (lcM ((pure (.int 14)) >>= itRange) (fun k'35 => (lcB (pure true) (ap2 (pure k'35) (pure (.int (i : Nat))) (opM (rDer (rEqA3 false)))))))) (opM (rDer (rEqA3 true))) >>= asB) (ap2 (pure (.bl true)) ((consA (pure e) (pure [])) >>= cl1 (m__law_others K)) (opM (rDer (rInA3 false))) >>= asB)) >>= fun b => if b = true then (pure (.bl false)) else ((cOr (cNot (((consA (pure e) (consA (pure (.raw (.ref (ga K "TermError")))) (pure []))) >>= cbM (cDer (rIsi3 (pZ K none (.ref (ga K "TermError")) (fun _ => none)) (.ref (ga K "TermError"))))) >>= asB)) (cNot (((consA (pure e) (consA (pure (.raw (.ty "ValueError"))) (pure []))) >>= cbM (cDer (rIsi3 (pZ K none (.type "ValueError") (fun _ => none)) (.ty "ValueError")))) >>= asB))) >>= fun b => if b = true then (pure (.bl false)) else ((ap2 ((consA ((consA (pure e) (consA (pure (.int (i : Nat))) (pure []))) >>= cl2 (m__law_field none K)) (pure [])) >>= cbM (cDer (rReprX3 K))) ((consA (pure thing) (pure [])) >>= cbM (cDer (rReprX3 K))) (opM (rDer (rEqA3 true))) >>= asB) >>= fun b => if b = true then (pure (.bl false)) else (nx ())))) P := by
  have e1 := law_sorts k h15 ef.er
  have e2 := law_others k h15 ef.er
  have e3 : itRange (.int 14) = pure ⟨rangeD 0 14, fun _ => True⟩ := itRange_nat (j := 14) (by decide)
  have e4 := law_field ef hf
  have t1 : cbM (cDer (rIsi3 (pZ K none (.ref (ga K "TermError")) (fun _ => none)) (.ref (ga K "TermError")))) [e, .raw (.ref (ga K "TermError"))] = pure (.bl true) := isZ ef.er (k.ib h15) (k.te h14).1
  have t2 : cbM (cDer (rIsi3 (pZ K none (.type "ValueError") (fun _ => none)) (.ty "ValueError"))) [e, .raw (.ty "ValueError")] = pure (.bl true) := isZ ef.er (k.ib h15) (k.te h14).2
  simp only [mp_pb, mp_bb, mp_rb, consA_pp, ap2_pp, cl0_n, cl1_n, cl2_n, cl3_n, cl4_n, cl5_n, cl6_n, cl7_n, asB_bl, asI_int, andV, orV, notV, cAnd, cOr, cNot, ifE, chM, eNM_p, toD_lst, toD_dk, Jn, frzM, lcB, dcB, itSeq_lst, itSeqD_lst, itSeqD_tup, itEnum_lst, itEnumS_lst, itEnumS_tup, itTup_tup, itStr_str, itZip_lst, itZipT_tup, itEz_lst, itRev_lst, forK_true, unp1_ok, unp2_ok, unp3_ok, unp4_ok, unp2L_ok, op_addI, L3.op_sub, op_cmp, op_eqI, op_eqS, op_inS, cb_lenL, cb_lenT, cb_lenD, cb_int2, cb_abs, cb_tupL, cb_tupT, cb_intB, cb_boolI, slM_L, slM_T, isDict_dk, asL_lst, isL_lst, revM_lst, revTM_tup, negM_int, augM_pp, isStr_str, isLst_lst, optM_some, tup0, tup1, tup2, tup3, tup4, lst0, lst1, lst2, lst3, lst4, lst5, insE_ok, isInt_int, isInt_bl, isInt_str, isInt_tup, isInt_lst, isInt_non, isInt_dk, isBl_int, isBl_bl, isBl_str, isBl_tup, isBl_lst, isBl_non, isStr_int, isStr_bl, isStr_s, isStr_tup, isStr_lst, isStr_non, isTup_int, isTup_bl, isTup_str, isTup_tup, isTup_lst, isTup_non, dLst_int, dLst_bl, dLst_str, dLst_tup, dLst_lst, dLst_non, ite_mt, ite_mf, if_true, if_false, Bool.false_eq_true, Bool.true_eq_false, Bool.not_true, Bool.not_false, Bool.or_false, Bool.or_true, Bool.false_or, Bool.true_or, Bool.and_true, Bool.and_false, Bool.true_and, Bool.false_and, ↓reduceIte, decide_true, decide_false, isB_non, isBB_non, isO_non, isB_bl, isBB_bl, isO_bl, isB_int, isBB_int, isO_int, isB_str, isBB_str, isO_str, isB_lst, isBB_lst, isO_lst, isB_tup, isBB_tup, isO_tup, isB_dk, isBB_dk, isO_dk, e1, e2, e3, e4, eqs14, sorts14 hs, others_no h36, t1, t2]
  refine rn_same g ?_
  simp only [mp_pb, mp_bb, mp_rb, consA_pp, ap2_pp, cl0_n, cl1_n, cl2_n, cl3_n, cl4_n, cl5_n, cl6_n, cl7_n, asB_bl, asI_int, andV, orV, notV, cAnd, cOr, cNot, ifE, chM, eNM_p, toD_lst, toD_dk, Jn, frzM, lcB, dcB, itSeq_lst, itSeqD_lst, itSeqD_tup, itEnum_lst, itEnumS_lst, itEnumS_tup, itTup_tup, itStr_str, itZip_lst, itZipT_tup, itEz_lst, itRev_lst, forK_true, unp1_ok, unp2_ok, unp3_ok, unp4_ok, unp2L_ok, op_addI, L3.op_sub, op_cmp, op_eqI, op_eqS, op_inS, cb_lenL, cb_lenT, cb_lenD, cb_int2, cb_abs, cb_tupL, cb_tupT, cb_intB, cb_boolI, slM_L, slM_T, isDict_dk, asL_lst, isL_lst, revM_lst, revTM_tup, negM_int, augM_pp, isStr_str, isLst_lst, optM_some, tup0, tup1, tup2, tup3, tup4, lst0, lst1, lst2, lst3, lst4, lst5, insE_ok, isInt_int, isInt_bl, isInt_str, isInt_tup, isInt_lst, isInt_non, isInt_dk, isBl_int, isBl_bl, isBl_str, isBl_tup, isBl_lst, isBl_non, isStr_int, isStr_bl, isStr_s, isStr_tup, isStr_lst, isStr_non, isTup_int, isTup_bl, isTup_str, isTup_tup, isTup_lst, isTup_non, dLst_int, dLst_bl, dLst_str, dLst_tup, dLst_lst, dLst_non, ite_mt, ite_mf, if_true, if_false, Bool.false_eq_true, Bool.true_eq_false, Bool.not_true, Bool.not_false, Bool.or_false, Bool.or_true, Bool.false_or, Bool.true_or, Bool.and_true, Bool.and_false, Bool.true_and, Bool.false_and, ↓reduceIte, decide_true, decide_false, isB_non, isBB_non, isO_non, isB_bl, isBB_bl, isO_bl, isB_int, isBB_int, isO_int, isB_str, isBB_str, isO_str, isB_lst, isBB_lst, isO_lst, isB_tup, isBB_tup, isO_tup, isB_dk, isBB_dk, isO_dk]
  exact hn
end
end W
set_option Elab.async false
set_option linter.all false
set_option maxRecDepth 100000
set_option maxHeartbeats 2000000
namespace W
open PySem PySem.Spec PyProof.Rows L2 L3 He TT
local instance xdead0I : XCt := XCt.dead
section
variable {K : PySem.W.Frag} {β : Type} {m : Mem} {c : Nat}
theorem ex_at14 {i : Nat} {cc f ms : Str} {d : D} (e : ms14[i]? = some (cc, f, ms)) : opM (rDer (rIxA3 K)) (.lst (ms14.map (exD K d))) (.int (i : Nat)) = pure (.exd (ga K cc) (some ms) [f] [d]) :=
  op_ixL (atI_nat (by rw [List.getElem?_map, e]; rfl))
theorem law_right {one other : D} (k : Kx K) (h1 : Th K 0 m one) (h2 : Th K 0 m other) : Rn m 0 (m__law_right K one other) (fun r _ => r = .bl true) := by
  have e3 : itRange (.int 14) = pure ⟨rangeD 0 14, fun _ => True⟩ := itRange_nat (j := 14) (by decide)
  have g1 := h1.gd k (by decide)
  have g2 := h2.gd k (by decide)
  unfold m__law_right
  simp only [mp_pb, mp_bb, mp_rb, consA_pp, ap2_pp, cl0_n, cl1_n, cl2_n, cl3_n, cl4_n, cl5_n, cl6_n, cl7_n, asB_bl, asI_int, andV, orV, notV, cAnd, cOr, cNot, ifE, chM, eNM_p, toD_lst, toD_dk, Jn, frzM, lcB, dcB, itSeq_lst, itSeqD_lst, itSeqD_tup, itEnum_lst, itEnumS_lst, itEnumS_tup, itTup_tup, itStr_str, itZip_lst, itZipT_tup, itEz_lst, itRev_lst, forK_true, unp1_ok, unp2_ok, unp3_ok, unp4_ok, unp2L_ok, op_addI, L3.op_sub, op_cmp, op_eqI, op_eqS, op_inS, cb_lenL, cb_lenT, cb_lenD, cb_int2, cb_abs, cb_tupL, cb_tupT, cb_intB, cb_boolI, slM_L, slM_T, isDict_dk, asL_lst, isL_lst, revM_lst, revTM_tup, negM_int, augM_pp, isStr_str, isLst_lst, optM_some, tup0, tup1, tup2, tup3, tup4, lst0, lst1, lst2, lst3, lst4, lst5, insE_ok, isInt_int, isInt_bl, isInt_str, isInt_tup, isInt_lst, isInt_non, isInt_dk, isBl_int, isBl_bl, isBl_str, isBl_tup, isBl_lst, isBl_non, isStr_int, isStr_bl, isStr_s, isStr_tup, isStr_lst, isStr_non, isTup_int, isTup_bl, isTup_str, isTup_tup, isTup_lst, isTup_non, dLst_int, dLst_bl, dLst_str, dLst_tup, dLst_lst, dLst_non, ite_mt, ite_mf, if_true, if_false, Bool.false_eq_true, Bool.true_eq_false, Bool.not_true, Bool.not_false, Bool.or_false, Bool.or_true, Bool.false_or, Bool.true_or, Bool.and_true, Bool.and_false, Bool.true_and, Bool.false_and, ↓reduceIte, decide_true, decide_false, isB_non, isBB_non, isO_non, isB_bl, isBB_bl, isO_bl, isB_int, isBB_int, isO_int, isB_str, isBB_str, isO_str, isB_lst, isBB_lst, isO_lst, isB_tup, isBB_tup, isO_tup, isB_dk, isBB_dk, isO_dk, by_place, by_name, e3]
  refine rn_w (c := 0 + (rangeD 0 14).length * 0) (rn_for (c := 0) (c' := 0) (fun _ _ m' => m' = m) (fun i d s n cn m1 hi hm hn => ?_) (fun s m1 hm => ?_) rfl) (fun _ _ h => h) (by omega)
  · subst hm
    obtain ⟨hi14, ed⟩ : i < 14 ∧ d = .int (i : Nat) := by
      have hl := (List.getElem?_eq_some_iff.mp hi).1
      unfold rangeD at hi hl
      rw [List.length_map, List.length_range] at hl
      rw [List.getElem?_map, List.getElem?_range hl] at hi
      refine ⟨hl, ?_⟩
      have := Option.some.inj hi
      rw [← this]
      show D.int (0 + (i : Int)) = _
      rw [Int.zero_add]
    subst ed
    obtain ⟨cc, f, ms, em, h14, h15, h36, hf, hs⟩ := at14 hi14
    simp only [mp_pb, mp_bb, mp_rb, consA_pp, ap2_pp, cl0_n, cl1_n, cl2_n, cl3_n, cl4_n, cl5_n, cl6_n, cl7_n, asB_bl, asI_int, andV, orV, notV, cAnd, cOr, cNot, ifE, chM, eNM_p, toD_lst, toD_dk, Jn, frzM, lcB, dcB, itSeq_lst, itSeqD_lst, itSeqD_tup, itEnum_lst, itEnumS_lst, itEnumS_tup, itTup_tup, itStr_str, itZip_lst, itZipT_tup, itEz_lst, itRev_lst, forK_true, unp1_ok, unp2_ok, unp3_ok, unp4_ok, unp2L_ok, op_addI, L3.op_sub, op_cmp, op_eqI, op_eqS, op_inS, cb_lenL, cb_lenT, cb_lenD, cb_int2, cb_abs, cb_tupL, cb_tupT, cb_intB, cb_boolI, slM_L, slM_T, isDict_dk, asL_lst, isL_lst, revM_lst, revTM_tup, negM_int, augM_pp, isStr_str, isLst_lst, optM_some, tup0, tup1, tup2, tup3, tup4, lst0, lst1, lst2, lst3, lst4, lst5, insE_ok, isInt_int, isInt_bl, isInt_str, isInt_tup, isInt_lst, isInt_non, isInt_dk, isBl_int, isBl_bl, isBl_str, isBl_tup, isBl_lst, isBl_non, isStr_int, isStr_bl, isStr_s, isStr_tup, isStr_lst, isStr_non, isTup_int, isTup_bl, isTup_str, isTup_tup, isTup_lst, isTup_non, dLst_int, dLst_bl, dLst_str, dLst_tup, dLst_lst, dLst_non, ite_mt, ite_mf, if_true, if_false, Bool.false_eq_true, Bool.true_eq_false, Bool.not_true, Bool.not_false, Bool.or_false, Bool.or_true, Bool.false_or, Bool.true_or, Bool.and_true, Bool.and_false, Bool.true_and, Bool.false_and, ↓reduceIte, decide_true, decide_false, isB_non, isBB_non, isO_non, isB_bl, isBB_bl, isO_bl, isB_int, isBB_int, isO_int, isB_str, isBB_str, isO_str, isB_lst, isBB_lst, isO_lst, isB_tup, isBB_tup, isO_tup, isB_dk, isBB_dk, isO_dk, ex_at14 em]
    rw [forP_cons, unp2_ok]
    have L1 := rn_look (K := K) (m := m1) (c := cn + 0) (nx := fun _ => forP (fun d32 s19 n30 => (unp2 d32 fun e'33 thing34 => ((cOr (ap2 ((consA (pure e'33) (pure [])) >>= cl1 (m__law_sorts none K)) (eNM (lcM ((pure (.int 14)) >>= itRange) (fun k'35 => (lcB (pure true) (ap2 (pure k'35) (pure (.int (i : Nat))) (opM (rDer (rEqA3 false)))))))) (opM (rDer (rEqA3 true))) >>= asB) (ap2 (pure (.bl true)) ((consA (pure e'33) (pure [])) >>= cl1 (m__law_others K)) (opM (rDer (rInA3 false))) >>= asB)) >>= fun b => if b = true then (pure (.bl false)) else ((cOr (cNot (((consA (pure e'33) (consA (pure (.raw (.ref (ga K "TermError")))) (pure []))) >>= cbM (cDer (rIsi3 (pZ K none (.ref (ga K "TermError")) (fun _ => none)) (.ref (ga K "TermError"))))) >>= asB)) (cNot (((consA (pure e'33) (consA (pure (.raw (.ty "ValueError"))) (pure []))) >>= cbM (cDer (rIsi3 (pZ K none (.type "ValueError") (fun _ => none)) (.ty "ValueError")))) >>= asB))) >>= fun b => if b = true then (pure (.bl false)) else ((ap2 ((consA ((consA (pure e'33) (consA (pure (.int (i : Nat))) (pure []))) >>= cl2 (m__law_field none K)) (pure [])) >>= cbM (cDer (rReprX3 K))) ((consA (pure thing34) (pure [])) >>= cbM (cDer (rReprX3 K))) (opM (rDer (rEqA3 true))) >>= asB) >>= fun b => if b = true then (pure (.bl false)) else (n30 ())))))) (fun _ => n ()) [D.tup [.exd (ga K cc) (some ms) [f] [other], other]] ()) k h14 h15 h36 hf hs (.x (some ms)) g1 (by
      rw [forP_cons, unp2_ok]
      exact rn_look k h14 h15 h36 hf hs (.x (some ms)) g2 (by rw [forP_nil]; exact hn () m1 rfl))
    simp only [mp_pb, mp_bb, mp_rb, consA_pp, ap2_pp, cl0_n, cl1_n, cl2_n, cl3_n, cl4_n, cl5_n, cl6_n, cl7_n, asB_bl, asI_int, andV, orV, notV, cAnd, cOr, cNot, ifE, chM, eNM_p, toD_lst, toD_dk, Jn, frzM, lcB, dcB, itSeq_lst, itSeqD_lst, itSeqD_tup, itEnum_lst, itEnumS_lst, itEnumS_tup, itTup_tup, itStr_str, itZip_lst, itZipT_tup, itEz_lst, itRev_lst, forK_true, unp1_ok, unp2_ok, unp3_ok, unp4_ok, unp2L_ok, op_addI, L3.op_sub, op_cmp, op_eqI, op_eqS, op_inS, cb_lenL, cb_lenT, cb_lenD, cb_int2, cb_abs, cb_tupL, cb_tupT, cb_intB, cb_boolI, slM_L, slM_T, isDict_dk, asL_lst, isL_lst, revM_lst, revTM_tup, negM_int, augM_pp, isStr_str, isLst_lst, optM_some, tup0, tup1, tup2, tup3, tup4, lst0, lst1, lst2, lst3, lst4, lst5, insE_ok, isInt_int, isInt_bl, isInt_str, isInt_tup, isInt_lst, isInt_non, isInt_dk, isBl_int, isBl_bl, isBl_str, isBl_tup, isBl_lst, isBl_non, isStr_int, isStr_bl, isStr_s, isStr_tup, isStr_lst, isStr_non, isTup_int, isTup_bl, isTup_str, isTup_tup, isTup_lst, isTup_non, dLst_int, dLst_bl, dLst_str, dLst_tup, dLst_lst, dLst_non, ite_mt, ite_mf, if_true, if_false, Bool.false_eq_true, Bool.true_eq_false, Bool.not_true, Bool.not_false, Bool.or_false, Bool.or_true, Bool.false_or, Bool.true_or, Bool.and_true, Bool.and_false, Bool.true_and, Bool.false_and, ↓reduceIte, decide_true, decide_false, isB_non, isBB_non, isO_non, isB_bl, isBB_bl, isO_bl, isB_int, isBB_int, isO_int, isB_str, isBB_str, isO_str, isB_lst, isBB_lst, isO_lst, isB_tup, isBB_tup, isO_tup, isB_dk, isBB_dk, isO_dk, e3] at L1
    exact L1
  · subst hm
    unfold eNM
    rw [mp_bb]
    refine rn_b (c1 := 0) (rn_lcM (fun j m' => Th K j m' one ∧ j ≤ 14) (fun j d m' hj hI => ?_) ⟨h1, by omega⟩ (by unfold enumD; rw [List.length_mapIdx, List.length_map]; decide)) (fun r m' z => ?_) (by omega)
    · obtain ⟨hj14, ed⟩ : ∃ h : j < 14, ∃ cc f ms, ms14[j]? = some (cc, f, ms) ∧ d = .tup [.int (j : Nat), .exd (ga K cc) (some ms) [f] [one]] ∧ ((f = "at" ∧ inT j = true ∧ cc ∈ ats) ∨ (f = "found" ∧ inT j = false ∧ cc ∈ fds)) := by
        have hl := (List.getElem?_eq_some_iff.mp hj).1
        unfold enumD at hj hl
        rw [List.length_mapIdx, List.length_map] at hl
        have hl' : j < 14 := hl
        obtain ⟨cc, f, ms, em, h14, h15, h36, hf, hs⟩ := at14 hl'
        rw [List.getElem?_mapIdx, List.getElem?_map, em] at hj
        exact ⟨hl', cc, f, ms, em, (Option.some.inj hj).symm, hf⟩
      obtain ⟨cc, f, ms, em, rfl, hf⟩ := ed
      have e4 := law_field (K := K) (.x (some ms) : Ef K none cc f one _) hf
      rw [unp2_ok]
      simp only [mp_pb, mp_bb, mp_rb, consA_pp, ap2_pp, cl0_n, cl1_n, cl2_n, cl3_n, cl4_n, cl5_n, cl6_n, cl7_n, asB_bl, asI_int, andV, orV, notV, cAnd, cOr, cNot, ifE, chM, eNM_p, toD_lst, toD_dk, Jn, frzM, lcB, dcB, itSeq_lst, itSeqD_lst, itSeqD_tup, itEnum_lst, itEnumS_lst, itEnumS_tup, itTup_tup, itStr_str, itZip_lst, itZipT_tup, itEz_lst, itRev_lst, forK_true, unp1_ok, unp2_ok, unp3_ok, unp4_ok, unp2L_ok, op_addI, L3.op_sub, op_cmp, op_eqI, op_eqS, op_inS, cb_lenL, cb_lenT, cb_lenD, cb_int2, cb_abs, cb_tupL, cb_tupT, cb_intB, cb_boolI, slM_L, slM_T, isDict_dk, asL_lst, isL_lst, revM_lst, revTM_tup, negM_int, augM_pp, isStr_str, isLst_lst, optM_some, tup0, tup1, tup2, tup3, tup4, lst0, lst1, lst2, lst3, lst4, lst5, insE_ok, isInt_int, isInt_bl, isInt_str, isInt_tup, isInt_lst, isInt_non, isInt_dk, isBl_int, isBl_bl, isBl_str, isBl_tup, isBl_lst, isBl_non, isStr_int, isStr_bl, isStr_s, isStr_tup, isStr_lst, isStr_non, isTup_int, isTup_bl, isTup_str, isTup_tup, isTup_lst, isTup_non, dLst_int, dLst_bl, dLst_str, dLst_tup, dLst_lst, dLst_non, ite_mt, ite_mf, if_true, if_false, Bool.false_eq_true, Bool.true_eq_false, Bool.not_true, Bool.not_false, Bool.or_false, Bool.or_true, Bool.false_or, Bool.true_or, Bool.and_true, Bool.and_false, Bool.true_and, Bool.false_and, ↓reduceIte, decide_true, decide_false, isB_non, isBB_non, isO_non, isB_bl, isBB_bl, isO_bl, isB_int, isBB_int, isO_int, isB_str, isBB_str, isO_str, isB_lst, isBB_lst, isO_lst, isB_tup, isBB_tup, isO_tup, isB_dk, isBB_dk, isO_dk, e4]
      refine rn_b (c1 := 0) (law_very k hI.1 hj14) (fun r m'' z => ?_) (by omega)
      obtain ⟨rfl, ht, hn⟩ := z
      exact rn_p ⟨rfl, ht, by omega⟩
    · obtain ⟨rfl, _⟩ := z
      simp only [mp_pb, mp_bb, mp_rb, consA_pp, ap2_pp, cl0_n, cl1_n, cl2_n, cl3_n, cl4_n, cl5_n, cl6_n, cl7_n, asB_bl, asI_int, andV, orV, notV, cAnd, cOr, cNot, ifE, chM, eNM_p, toD_lst, toD_dk, Jn, frzM, lcB, dcB, itSeq_lst, itSeqD_lst, itSeqD_tup, itEnum_lst, itEnumS_lst, itEnumS_tup, itTup_tup, itStr_str, itZip_lst, itZipT_tup, itEz_lst, itRev_lst, forK_true, unp1_ok, unp2_ok, unp3_ok, unp4_ok, unp2L_ok, op_addI, L3.op_sub, op_cmp, op_eqI, op_eqS, op_inS, cb_lenL, cb_lenT, cb_lenD, cb_int2, cb_abs, cb_tupL, cb_tupT, cb_intB, cb_boolI, slM_L, slM_T, isDict_dk, asL_lst, isL_lst, revM_lst, revTM_tup, negM_int, augM_pp, isStr_str, isLst_lst, optM_some, tup0, tup1, tup2, tup3, tup4, lst0, lst1, lst2, lst3, lst4, lst5, insE_ok, isInt_int, isInt_bl, isInt_str, isInt_tup, isInt_lst, isInt_non, isInt_dk, isBl_int, isBl_bl, isBl_str, isBl_tup, isBl_lst, isBl_non, isStr_int, isStr_bl, isStr_s, isStr_tup, isStr_lst, isStr_non, isTup_int, isTup_bl, isTup_str, isTup_tup, isTup_lst, isTup_non, dLst_int, dLst_bl, dLst_str, dLst_tup, dLst_lst, dLst_non, ite_mt, ite_mf, if_true, if_false, Bool.false_eq_true, Bool.true_eq_false, Bool.not_true, Bool.not_false, Bool.or_false, Bool.or_true, Bool.false_or, Bool.true_or, Bool.and_true, Bool.and_false, Bool.true_and, Bool.false_and, ↓reduceIte, decide_true, decide_false, isB_non, isBB_non, isO_non, isB_bl, isBB_bl, isO_bl, isB_int, isBB_int, isO_int, isB_str, isBB_str, isO_str, isB_lst, isBB_lst, isO_lst, isB_tup, isBB_tup, isO_tup, isB_dk, isBB_dk, isO_dk, last_no]
      exact rn_p rfl
end
end W
set_option Elab.async false
set_option linter.all false
set_option maxRecDepth 100000
set_option maxHeartbeats 2000000
namespace W
open PySem PySem.Spec PyProof.Rows L2 L3 He TT
local instance xdead0J : XCt := XCt.dead
section
variable {K : PySem.W.Frag} {β : Type} {m : Mem} {c : Nat}
theorem base_no (k : Kx K) : ∃ d : D, (∀ {γ : Type} (f : D → MP γ), (mk0M (ga K "TermError") (.str "no proof") >>= f) = f d) ∧ opM (rDer rAdd3) (.lst (cs14.map fun d => .bl (decide (("TermError" : Str) = d)))) (.lst (cs36.map fun d => .bl (decide (("TermError" : Str) = d)))) = pure (.lst ((List.replicate 50 false).map .bl)) ∧
    m__law_sorts none K d = pure (.lst (cs14.map fun d => .bl (decide (("TermError" : Str) = d)))) ∧ m__law_others K d = pure (.lst (cs36.map fun d => .bl (decide (("TermError" : Str) = d)))) := by
  have h15 : ("TermError" : Str) ∈ cs15 := by decide +kernel
  refine ⟨.exd (ga K "TermError") none [] [], fun f => rfl, ?_, law_sorts k h15 (.x none [] []), law_others k h15 (.x none [] [])⟩
  have e1 : (cs14.map fun d => D.bl (decide (("TermError" : Str) = d))) = (cs14.map fun d => decide (("TermError" : Str) = d)).map .bl := by rw [List.map_map]; rfl
  have e2 : (cs36.map fun d => D.bl (decide (("TermError" : Str) = d))) = (cs36.map fun d => decide (("TermError" : Str) = d)).map .bl := by rw [List.map_map]; rfl
  have e3 : (cs14.map fun d => decide (("TermError" : Str) = d)) = List.replicate 14 false := by decide +kernel
  have e4 : (cs36.map fun d => decide (("TermError" : Str) = d)) = List.replicate 36 false := by decide +kernel
  rw [e1, e2, e3, e4, op_addLs (by simp only [List.length_map, List.length_replicate]; decide), ← List.map_append]
  rfl
/-- one turn -/
theorem law_rn (k : Kx K) (ns : List Int) : Rn ⟨0, []⟩ 1000 (m_law K (.scr K ns)) (fun d _ => d = .bl true) := by
  have e3 : itRange (.int 3) = pure ⟨rangeD 0 3, fun _ => True⟩ := itRange_nat (j := 3) (by decide)
  obtain ⟨e, he, h1, h2, h3⟩ := base_no k
  unfold m_law
  simp only [mp_pb, mp_bb, mp_rb, consA_pp, ap2_pp, cl0_n, cl1_n, cl2_n, cl3_n, cl4_n, cl5_n, cl6_n, cl7_n, asB_bl, asI_int, andV, orV, notV, cAnd, cOr, cNot, ifE, chM, eNM_p, toD_lst, toD_dk, Jn, frzM, lcB, dcB, itSeq_lst, itSeqD_lst, itSeqD_tup, itEnum_lst, itEnumS_lst, itEnumS_tup, itTup_tup, itStr_str, itZip_lst, itZipT_tup, itEz_lst, itRev_lst, forK_true, unp1_ok, unp2_ok, unp3_ok, unp4_ok, unp2L_ok, op_addI, L3.op_sub, op_cmp, op_eqI, op_eqS, op_inS, cb_lenL, cb_lenT, cb_lenD, cb_int2, cb_abs, cb_tupL, cb_tupT, cb_intB, cb_boolI, slM_L, slM_T, isDict_dk, asL_lst, isL_lst, revM_lst, revTM_tup, negM_int, augM_pp, isStr_str, isLst_lst, optM_some, tup0, tup1, tup2, tup3, tup4, lst0, lst1, lst2, lst3, lst4, lst5, insE_ok, isInt_int, isInt_bl, isInt_str, isInt_tup, isInt_lst, isInt_non, isInt_dk, isBl_int, isBl_bl, isBl_str, isBl_tup, isBl_lst, isBl_non, isStr_int, isStr_bl, isStr_s, isStr_tup, isStr_lst, isStr_non, isTup_int, isTup_bl, isTup_str, isTup_tup, isTup_lst, isTup_non, dLst_int, dLst_bl, dLst_str, dLst_tup, dLst_lst, dLst_non, ite_mt, ite_mf, if_true, if_false, Bool.false_eq_true, Bool.true_eq_false, Bool.not_true, Bool.not_false, Bool.or_false, Bool.or_true, Bool.false_or, Bool.true_or, Bool.and_true, Bool.and_false, Bool.true_and, Bool.false_and, ↓reduceIte, decide_true, decide_false, isB_non, isBB_non, isO_non, isB_bl, isBB_bl, isO_bl, isB_int, isBB_int, isO_int, isB_str, isBB_str, isO_str, isB_lst, isBB_lst, isO_lst, isB_tup, isBB_tup, isO_tup, isB_dk, isBB_dk, isO_dk, cb_lenScr, he, h2, h3, h1, in_bls, e3]
  obtain ⟨N, hN, eN⟩ : ∃ N : Nat, N ≤ 6 ∧ (if (if (ns.length : Int) < 6 then (ns.length : Int) else 6) > 2 then (if (ns.length : Int) < 6 then (ns.length : Int) else 6) else 2) = (N : Int) := by
    refine ⟨(if (if (ns.length : Int) < 6 then (ns.length : Int) else 6) > 2 then (if (ns.length : Int) < 6 then (ns.length : Int) else 6) else 2).toNat, ?_, ?_⟩
    · split <;> split <;> omega
    · split <;> split <;> omega
  rw [eN, itRange_nat (by omega), mp_pb]
  simp only [mp_pb, mp_bb, mp_rb, consA_pp, ap2_pp, cl0_n, cl1_n, cl2_n, cl3_n, cl4_n, cl5_n, cl6_n, cl7_n, asB_bl, asI_int, andV, orV, notV, cAnd, cOr, cNot, ifE, chM, eNM_p, toD_lst, toD_dk, Jn, frzM, lcB, dcB, itSeq_lst, itSeqD_lst, itSeqD_tup, itEnum_lst, itEnumS_lst, itEnumS_tup, itTup_tup, itStr_str, itZip_lst, itZipT_tup, itEz_lst, itRev_lst, forK_true, unp1_ok, unp2_ok, unp3_ok, unp4_ok, unp2L_ok, op_addI, L3.op_sub, op_cmp, op_eqI, op_eqS, op_inS, cb_lenL, cb_lenT, cb_lenD, cb_int2, cb_abs, cb_tupL, cb_tupT, cb_intB, cb_boolI, slM_L, slM_T, isDict_dk, asL_lst, isL_lst, revM_lst, revTM_tup, negM_int, augM_pp, isStr_str, isLst_lst, optM_some, tup0, tup1, tup2, tup3, tup4, lst0, lst1, lst2, lst3, lst4, lst5, insE_ok, isInt_int, isInt_bl, isInt_str, isInt_tup, isInt_lst, isInt_non, isInt_dk, isBl_int, isBl_bl, isBl_str, isBl_tup, isBl_lst, isBl_non, isStr_int, isStr_bl, isStr_s, isStr_tup, isStr_lst, isStr_non, isTup_int, isTup_bl, isTup_str, isTup_tup, isTup_lst, isTup_non, dLst_int, dLst_bl, dLst_str, dLst_tup, dLst_lst, dLst_non, ite_mt, ite_mf, if_true, if_false, Bool.false_eq_true, Bool.true_eq_false, Bool.not_true, Bool.not_false, Bool.or_false, Bool.or_true, Bool.false_or, Bool.true_or, Bool.and_true, Bool.and_false, Bool.true_and, Bool.false_and, ↓reduceIte, decide_true, decide_false, isB_non, isBB_non, isO_non, isB_bl, isBB_bl, isO_bl, isB_int, isBB_int, isO_int, isB_str, isBB_str, isO_str, isB_lst, isBB_lst, isO_lst, isB_tup, isBB_tup, isO_tup, isB_dk, isBB_dk, isO_dk]
  have no : decide (true ∈ List.replicate 50 false) = false := decide_eq_false fun z => by
    have := List.eq_of_mem_replicate z
    cases this
  have len : ∀ n : Nat, (rangeD 0 n).length = n := fun n => by unfold rangeD; rw [List.length_map, List.length_range]
  have at_ : ∀ {n i : Nat} {d : D}, (rangeD 0 n)[i]? = some d → i < n ∧ d = .int (i : Nat) := fun {n i d} hi => by
    have hl := (List.getElem?_eq_some_iff.mp hi).1
    unfold rangeD at hi hl
    rw [List.length_map, List.length_range] at hl
    rw [List.getElem?_map, List.getElem?_range hl] at hi
    refine ⟨hl, ?_⟩
    have := Option.some.inj hi
    rw [← this]
    show D.int (0 + (i : Int)) = _
    rw [Int.zero_add]
  refine rn_w (c := 0 + (rangeD 0 N).length * 12) (rn_for (c := 12) (c' := 0) (fun _ _ _ => True) (fun j d s n cn m1 hj _ hn => ?_) (fun s m1 _ => rn_p rfl) trivial) (fun _ _ h => h) (by rw [len]; omega)
  obtain ⟨hj6, rfl⟩ := at_ hj
  obtain ⟨z, ez⟩ := law_cell (K := K) (ns := ns) (k := j) (by omega)
  simp only [mp_pb, mp_bb, mp_rb, consA_pp, ap2_pp, cl0_n, cl1_n, cl2_n, cl3_n, cl4_n, cl5_n, cl6_n, cl7_n, asB_bl, asI_int, andV, orV, notV, cAnd, cOr, cNot, ifE, chM, eNM_p, toD_lst, toD_dk, Jn, frzM, lcB, dcB, itSeq_lst, itSeqD_lst, itSeqD_tup, itEnum_lst, itEnumS_lst, itEnumS_tup, itTup_tup, itStr_str, itZip_lst, itZipT_tup, itEz_lst, itRev_lst, forK_true, unp1_ok, unp2_ok, unp3_ok, unp4_ok, unp2L_ok, op_addI, L3.op_sub, op_cmp, op_eqI, op_eqS, op_inS, cb_lenL, cb_lenT, cb_lenD, cb_int2, cb_abs, cb_tupL, cb_tupT, cb_intB, cb_boolI, slM_L, slM_T, isDict_dk, asL_lst, isL_lst, revM_lst, revTM_tup, negM_int, augM_pp, isStr_str, isLst_lst, optM_some, tup0, tup1, tup2, tup3, tup4, lst0, lst1, lst2, lst3, lst4, lst5, insE_ok, isInt_int, isInt_bl, isInt_str, isInt_tup, isInt_lst, isInt_non, isInt_dk, isBl_int, isBl_bl, isBl_str, isBl_tup, isBl_lst, isBl_non, isStr_int, isStr_bl, isStr_s, isStr_tup, isStr_lst, isStr_non, isTup_int, isTup_bl, isTup_str, isTup_tup, isTup_lst, isTup_non, dLst_int, dLst_bl, dLst_str, dLst_tup, dLst_lst, dLst_non, ite_mt, ite_mf, if_true, if_false, Bool.false_eq_true, Bool.true_eq_false, Bool.not_true, Bool.not_false, Bool.or_false, Bool.or_true, Bool.false_or, Bool.true_or, Bool.and_true, Bool.and_false, Bool.true_and, Bool.false_and, ↓reduceIte, decide_true, decide_false, isB_non, isBB_non, isO_non, isB_bl, isBB_bl, isO_bl, isB_int, isBB_int, isO_int, isB_str, isBB_str, isO_str, isB_lst, isBB_lst, isO_lst, isB_tup, isBB_tup, isO_tup, isB_dk, isBB_dk, isO_dk, ez]
  refine rn_dx dr_box (fun _ m2 e _ => ?_)
  subst e
  refine rn_w (c := cn + (rangeD 0 3).length * 4) (rn_for (c := 4) (c' := cn) (fun _ _ _ => True) (fun i d s n3 cn3 m3 hi _ hn3 => ?_) (fun s m3 _ => ?_) trivial) (fun _ _ h => h) (by rw [len]; omega)
  · try simp only [mp_pb, mp_bb, mp_rb, consA_pp, ap2_pp, cl0_n, cl1_n, cl2_n, cl3_n, cl4_n, cl5_n, cl6_n, cl7_n, asB_bl, asI_int, andV, orV, notV, cAnd, cOr, cNot, ifE, chM, eNM_p, toD_lst, toD_dk, Jn, frzM, lcB, dcB, itSeq_lst, itSeqD_lst, itSeqD_tup, itEnum_lst, itEnumS_lst, itEnumS_tup, itTup_tup, itStr_str, itZip_lst, itZipT_tup, itEz_lst, itRev_lst, forK_true, unp1_ok, unp2_ok, unp3_ok, unp4_ok, unp2L_ok, op_addI, L3.op_sub, op_cmp, op_eqI, op_eqS, op_inS, cb_lenL, cb_lenT, cb_lenD, cb_int2, cb_abs, cb_tupL, cb_tupT, cb_intB, cb_boolI, slM_L, slM_T, isDict_dk, asL_lst, isL_lst, revM_lst, revTM_tup, negM_int, augM_pp, isStr_str, isLst_lst, optM_some, tup0, tup1, tup2, tup3, tup4, lst0, lst1, lst2, lst3, lst4, lst5, insE_ok, isInt_int, isInt_bl, isInt_str, isInt_tup, isInt_lst, isInt_non, isInt_dk, isBl_int, isBl_bl, isBl_str, isBl_tup, isBl_lst, isBl_non, isStr_int, isStr_bl, isStr_s, isStr_tup, isStr_lst, isStr_non, isTup_int, isTup_bl, isTup_str, isTup_tup, isTup_lst, isTup_non, dLst_int, dLst_bl, dLst_str, dLst_tup, dLst_lst, dLst_non, ite_mt, ite_mf, if_true, if_false, Bool.false_eq_true, Bool.true_eq_false, Bool.not_true, Bool.not_false, Bool.or_false, Bool.or_true, Bool.false_or, Bool.true_or, Bool.and_true, Bool.and_false, Bool.true_and, Bool.false_and, ↓reduceIte, decide_true, decide_false, isB_non, isBB_non, isO_non, isB_bl, isBB_bl, isO_bl, isB_int, isBB_int, isO_int, isB_str, isBB_str, isO_str, isB_lst, isBB_lst, isO_lst, isB_tup, isBB_tup, isO_tup, isB_dk, isBB_dk, isO_dk, ap2, consA, eNM, lcM_bb]
    refine rn_dx (c1 := 1) (dr_take 5) (fun _ m4 q _ => ?_)
    obtain ⟨w, hw, rfl⟩ := q
    refine rn_b (c1 := 1) law_thing (fun one m5 q => ?_)
    obtain ⟨t1, _⟩ := q
    try simp only [mp_pb, mp_bb, mp_rb, consA_pp, ap2_pp, cl0_n, cl1_n, cl2_n, cl3_n, cl4_n, cl5_n, cl6_n, cl7_n, asB_bl, asI_int, andV, orV, notV, cAnd, cOr, cNot, ifE, chM, eNM_p, toD_lst, toD_dk, Jn, frzM, lcB, dcB, itSeq_lst, itSeqD_lst, itSeqD_tup, itEnum_lst, itEnumS_lst, itEnumS_tup, itTup_tup, itStr_str, itZip_lst, itZipT_tup, itEz_lst, itRev_lst, forK_true, unp1_ok, unp2_ok, unp3_ok, unp4_ok, unp2L_ok, op_addI, L3.op_sub, op_cmp, op_eqI, op_eqS, op_inS, cb_lenL, cb_lenT, cb_lenD, cb_int2, cb_abs, cb_tupL, cb_tupT, cb_intB, cb_boolI, slM_L, slM_T, isDict_dk, asL_lst, isL_lst, revM_lst, revTM_tup, negM_int, augM_pp, isStr_str, isLst_lst, optM_some, tup0, tup1, tup2, tup3, tup4, lst0, lst1, lst2, lst3, lst4, lst5, insE_ok, isInt_int, isInt_bl, isInt_str, isInt_tup, isInt_lst, isInt_non, isInt_dk, isBl_int, isBl_bl, isBl_str, isBl_tup, isBl_lst, isBl_non, isStr_int, isStr_bl, isStr_s, isStr_tup, isStr_lst, isStr_non, isTup_int, isTup_bl, isTup_str, isTup_tup, isTup_lst, isTup_non, dLst_int, dLst_bl, dLst_str, dLst_tup, dLst_lst, dLst_non, ite_mt, ite_mf, if_true, if_false, Bool.false_eq_true, Bool.true_eq_false, Bool.not_true, Bool.not_false, Bool.or_false, Bool.or_true, Bool.false_or, Bool.true_or, Bool.and_true, Bool.and_false, Bool.true_and, Bool.false_and, ↓reduceIte, decide_true, decide_false, isB_non, isBB_non, isO_non, isB_bl, isBB_bl, isO_bl, isB_int, isBB_int, isO_int, isB_str, isBB_str, isO_str, isB_lst, isBB_lst, isO_lst, isB_tup, isBB_tup, isO_tup, isB_dk, isBB_dk, isO_dk, ap2, consA, eNM, lcM_bb]
    refine rn_b (c1 := 0) (law_caught k (by omega) (t1.gd k (by decide))) (fun r m6 q => ?_)
    obtain ⟨rfl, rfl⟩ := q
    try simp only [mp_pb, mp_bb, mp_rb, consA_pp, ap2_pp, cl0_n, cl1_n, cl2_n, cl3_n, cl4_n, cl5_n, cl6_n, cl7_n, asB_bl, asI_int, andV, orV, notV, cAnd, cOr, cNot, ifE, chM, eNM_p, toD_lst, toD_dk, Jn, frzM, lcB, dcB, itSeq_lst, itSeqD_lst, itSeqD_tup, itEnum_lst, itEnumS_lst, itEnumS_tup, itTup_tup, itStr_str, itZip_lst, itZipT_tup, itEz_lst, itRev_lst, forK_true, unp1_ok, unp2_ok, unp3_ok, unp4_ok, unp2L_ok, op_addI, L3.op_sub, op_cmp, op_eqI, op_eqS, op_inS, cb_lenL, cb_lenT, cb_lenD, cb_int2, cb_abs, cb_tupL, cb_tupT, cb_intB, cb_boolI, slM_L, slM_T, isDict_dk, asL_lst, isL_lst, revM_lst, revTM_tup, negM_int, augM_pp, isStr_str, isLst_lst, optM_some, tup0, tup1, tup2, tup3, tup4, lst0, lst1, lst2, lst3, lst4, lst5, insE_ok, isInt_int, isInt_bl, isInt_str, isInt_tup, isInt_lst, isInt_non, isInt_dk, isBl_int, isBl_bl, isBl_str, isBl_tup, isBl_lst, isBl_non, isStr_int, isStr_bl, isStr_s, isStr_tup, isStr_lst, isStr_non, isTup_int, isTup_bl, isTup_str, isTup_tup, isTup_lst, isTup_non, dLst_int, dLst_bl, dLst_str, dLst_tup, dLst_lst, dLst_non, ite_mt, ite_mf, if_true, if_false, Bool.false_eq_true, Bool.true_eq_false, Bool.not_true, Bool.not_false, Bool.or_false, Bool.or_true, Bool.false_or, Bool.true_or, Bool.and_true, Bool.and_false, Bool.true_and, Bool.false_and, ↓reduceIte, decide_true, decide_false, isB_non, isBB_non, isO_non, isB_bl, isBB_bl, isO_bl, isB_int, isBB_int, isO_int, isB_str, isBB_str, isO_str, isB_lst, isBB_lst, isO_lst, isB_tup, isBB_tup, isO_tup, isB_dk, isBB_dk, isO_dk, ap2, consA, eNM, lcM_bb]
    refine rn_b (c1 := 1) law_thing (fun a m7 q => ?_)
    obtain ⟨ta, _⟩ := q
    refine rn_b (c1 := 1) law_thing (fun b m8 q => ?_)
    obtain ⟨tb, kb⟩ := q
    try simp only [mp_pb, mp_bb, mp_rb, consA_pp, ap2_pp, cl0_n, cl1_n, cl2_n, cl3_n, cl4_n, cl5_n, cl6_n, cl7_n, asB_bl, asI_int, andV, orV, notV, cAnd, cOr, cNot, ifE, chM, eNM_p, toD_lst, toD_dk, Jn, frzM, lcB, dcB, itSeq_lst, itSeqD_lst, itSeqD_tup, itEnum_lst, itEnumS_lst, itEnumS_tup, itTup_tup, itStr_str, itZip_lst, itZipT_tup, itEz_lst, itRev_lst, forK_true, unp1_ok, unp2_ok, unp3_ok, unp4_ok, unp2L_ok, op_addI, L3.op_sub, op_cmp, op_eqI, op_eqS, op_inS, cb_lenL, cb_lenT, cb_lenD, cb_int2, cb_abs, cb_tupL, cb_tupT, cb_intB, cb_boolI, slM_L, slM_T, isDict_dk, asL_lst, isL_lst, revM_lst, revTM_tup, negM_int, augM_pp, isStr_str, isLst_lst, optM_some, tup0, tup1, tup2, tup3, tup4, lst0, lst1, lst2, lst3, lst4, lst5, insE_ok, isInt_int, isInt_bl, isInt_str, isInt_tup, isInt_lst, isInt_non, isInt_dk, isBl_int, isBl_bl, isBl_str, isBl_tup, isBl_lst, isBl_non, isStr_int, isStr_bl, isStr_s, isStr_tup, isStr_lst, isStr_non, isTup_int, isTup_bl, isTup_str, isTup_tup, isTup_lst, isTup_non, dLst_int, dLst_bl, dLst_str, dLst_tup, dLst_lst, dLst_non, ite_mt, ite_mf, if_true, if_false, Bool.false_eq_true, Bool.true_eq_false, Bool.not_true, Bool.not_false, Bool.or_false, Bool.or_true, Bool.false_or, Bool.true_or, Bool.and_true, Bool.and_false, Bool.true_and, Bool.false_and, ↓reduceIte, decide_true, decide_false, isB_non, isBB_non, isO_non, isB_bl, isBB_bl, isO_bl, isB_int, isBB_int, isO_int, isB_str, isBB_str, isO_str, isB_lst, isBB_lst, isO_lst, isB_tup, isBB_tup, isO_tup, isB_dk, isBB_dk, isO_dk, ap2, consA, eNM, lcM_bb]
    refine rn_b (c1 := 0) (law_right k (ta.mono kb) tb) (fun r m9 q => ?_)
    subst q
    try simp only [mp_pb, mp_bb, mp_rb, consA_pp, ap2_pp, cl0_n, cl1_n, cl2_n, cl3_n, cl4_n, cl5_n, cl6_n, cl7_n, asB_bl, asI_int, andV, orV, notV, cAnd, cOr, cNot, ifE, chM, eNM_p, toD_lst, toD_dk, Jn, frzM, lcB, dcB, itSeq_lst, itSeqD_lst, itSeqD_tup, itEnum_lst, itEnumS_lst, itEnumS_tup, itTup_tup, itStr_str, itZip_lst, itZipT_tup, itEz_lst, itRev_lst, forK_true, unp1_ok, unp2_ok, unp3_ok, unp4_ok, unp2L_ok, op_addI, L3.op_sub, op_cmp, op_eqI, op_eqS, op_inS, cb_lenL, cb_lenT, cb_lenD, cb_int2, cb_abs, cb_tupL, cb_tupT, cb_intB, cb_boolI, slM_L, slM_T, isDict_dk, asL_lst, isL_lst, revM_lst, revTM_tup, negM_int, augM_pp, isStr_str, isLst_lst, optM_some, tup0, tup1, tup2, tup3, tup4, lst0, lst1, lst2, lst3, lst4, lst5, insE_ok, isInt_int, isInt_bl, isInt_str, isInt_tup, isInt_lst, isInt_non, isInt_dk, isBl_int, isBl_bl, isBl_str, isBl_tup, isBl_lst, isBl_non, isStr_int, isStr_bl, isStr_s, isStr_tup, isStr_lst, isStr_non, isTup_int, isTup_bl, isTup_str, isTup_tup, isTup_lst, isTup_non, dLst_int, dLst_bl, dLst_str, dLst_tup, dLst_lst, dLst_non, ite_mt, ite_mf, if_true, if_false, Bool.false_eq_true, Bool.true_eq_false, Bool.not_true, Bool.not_false, Bool.or_false, Bool.or_true, Bool.false_or, Bool.true_or, Bool.and_true, Bool.and_false, Bool.true_and, Bool.false_and, ↓reduceIte, decide_true, decide_false, isB_non, isBB_non, isO_non, isB_bl, isBB_bl, isO_bl, isB_int, isBB_int, isO_int, isB_str, isBB_str, isO_str, isB_lst, isBB_lst, isO_lst, isB_tup, isBB_tup, isO_tup, isB_dk, isBB_dk, isO_dk, ap2, consA, eNM, lcM_bb]
    exact rn_w (hn3 () m9 trivial) (fun _ _ h => h) (by omega)
  · rw [no]
    try simp only [mp_pb, mp_bb, mp_rb, consA_pp, ap2_pp, cl0_n, cl1_n, cl2_n, cl3_n, cl4_n, cl5_n, cl6_n, cl7_n, asB_bl, asI_int, andV, orV, notV, cAnd, cOr, cNot, ifE, chM, eNM_p, toD_lst, toD_dk, Jn, frzM, lcB, dcB, itSeq_lst, itSeqD_lst, itSeqD_tup, itEnum_lst, itEnumS_lst, itEnumS_tup, itTup_tup, itStr_str, itZip_lst, itZipT_tup, itEz_lst, itRev_lst, forK_true, unp1_ok, unp2_ok, unp3_ok, unp4_ok, unp2L_ok, op_addI, L3.op_sub, op_cmp, op_eqI, op_eqS, op_inS, cb_lenL, cb_lenT, cb_lenD, cb_int2, cb_abs, cb_tupL, cb_tupT, cb_intB, cb_boolI, slM_L, slM_T, isDict_dk, asL_lst, isL_lst, revM_lst, revTM_tup, negM_int, augM_pp, isStr_str, isLst_lst, optM_some, tup0, tup1, tup2, tup3, tup4, lst0, lst1, lst2, lst3, lst4, lst5, insE_ok, isInt_int, isInt_bl, isInt_str, isInt_tup, isInt_lst, isInt_non, isInt_dk, isBl_int, isBl_bl, isBl_str, isBl_tup, isBl_lst, isBl_non, isStr_int, isStr_bl, isStr_s, isStr_tup, isStr_lst, isStr_non, isTup_int, isTup_bl, isTup_str, isTup_tup, isTup_lst, isTup_non, dLst_int, dLst_bl, dLst_str, dLst_tup, dLst_lst, dLst_non, ite_mt, ite_mf, if_true, if_false, Bool.false_eq_true, Bool.true_eq_false, Bool.not_true, Bool.not_false, Bool.or_false, Bool.or_true, Bool.false_or, Bool.true_or, Bool.and_true, Bool.and_false, Bool.true_and, Bool.false_and, ↓reduceIte, decide_true, decide_false, isB_non, isBB_non, isO_non, isB_bl, isBB_bl, isO_bl, isB_int, isBB_int, isO_int, isB_str, isBB_str, isO_str, isB_lst, isBB_lst, isO_lst, isB_tup, isBB_tup, isO_tup, isB_dk, isBB_dk, isO_dk, ap2, consA, eNM, lcM_bb]
    exact rn_w (hn () m3 trivial) (fun _ _ h => h) (by omega)
theorem law_run (k : Kx K) (ns : List Int) : (m_law K (.scr K ns)).run ⟨0, []⟩ (fun d _ => d = .bl true) (fun _ _ => False) := law_rn k ns _ _ (by show 0 + 1000 ≤ 2 ^ 40; omega) (fun a m' h _ => h)
end
end W
set_option Elab.async false
set_option linter.all false
namespace W
open PySem PySem.Spec PyProof.Rows L2 L3 He
theorem law_true {K : PySem.W.Frag} (k : Kx K) (ns : List Int) : (m_law K (.scr K ns)).run ⟨0, []⟩ (fun d _ => d = .bl true) (fun _ _ => False) := law_run k ns
end W
set_option Elab.async false
set_option linter.all false
set_option maxRecDepth 100000
set_option maxHeartbeats 0
namespace Hd
open PySem PySem.Spec PyProof.Rows L2 L3 W
theorem fx {K : PySem.W.Frag} {h : Heap} {mg : Str → Option Value} (X : K.In h) (G : h.Ns mainGlobals mg) (c : He.SaysD fa fn K) (e : (exs K).all id = true) : Fx K mg := ⟨c.def_ 0 (d := d__law_cell) rfl,
  c.def_ 1 (d := d__law_box) rfl,
  c.def_ 2 (d := d__law_take) rfl,
  c.def_ 3 (d := d__law_very) rfl,
  c.def_ 4 (d := d__law_by_place) rfl,
  c.def_ 5 (d := d__law_by_name) rfl,
  c.def_ 6 (d := d__law_sorts) rfl,
  c.def_ 7 (d := d__law_others) rfl,
  c.def_ 8 (d := d__law_field) rfl,
  c.def_ 9 (d := d__law_thing) rfl,
  c.def_ 10 (d := d__law_caught) rfl,
  c.def_ 11 (d := d__law_right) rfl,
  c.def_ 12 (d := d_law) rfl,
  He.free_ok X G (c.fact 0 (f := .free "ValueError") rfl),
  He.free_ok X G (c.fact 1 (f := .free "abs") rfl),
  He.free_ok X G (c.fact 2 (f := .free "dict") rfl),
  He.free_ok X G (c.fact 3 (f := .free "enumerate") rfl),
  He.free_ok X G (c.fact 4 (f := .free "isinstance") rfl),
  He.free_ok X G (c.fact 5 (f := .free "len") rfl),
  He.free_ok X G (c.fact 6 (f := .free "list") rfl),
  He.free_ok X G (c.fact 7 (f := .free "max") rfl),
  He.free_ok X G (c.fact 8 (f := .free "min") rfl),
  He.free_ok X G (c.fact 9 (f := .free "range") rfl),
  He.free_ok X G (c.fact 10 (f := .free "repr") rfl),
  He.glo_ok X G (c.fact 11 (f := .glo "Absent") rfl),
  He.glo_ok X G (c.fact 12 (f := .glo "Beyond") rfl),
  He.glo_ok X G (c.fact 13 (f := .glo "Changed") rfl),
  He.glo_ok X G (c.fact 14 (f := .glo "Ended") rfl),
  He.glo_ok X G (c.fact 15 (f := .glo "Endless") rfl),
  He.glo_ok X G (c.fact 16 (f := .glo "NoAsk") rfl),
  He.glo_ok X G (c.fact 17 (f := .glo "NoCompleting") rfl),
  He.glo_ok X G (c.fact 18 (f := .glo "NoDeed") rfl),
  He.glo_ok X G (c.fact 19 (f := .glo "NoEquations") rfl),
  He.glo_ok X G (c.fact 20 (f := .glo "NoLetter") rfl),
  He.glo_ok X G (c.fact 21 (f := .glo "NoLine") rfl),
  He.glo_ok X G (c.fact 22 (f := .glo "NoList") rfl),
  He.glo_ok X G (c.fact 23 (f := .glo "NoMakers") rfl),
  He.glo_ok X G (c.fact 24 (f := .glo "NoModel") rfl),
  He.glo_ok X G (c.fact 25 (f := .glo "NoMore") rfl),
  He.glo_ok X G (c.fact 26 (f := .glo "NoName") rfl),
  He.glo_ok X G (c.fact 27 (f := .glo "NoNames") rfl),
  He.glo_ok X G (c.fact 28 (f := .glo "NoNote") rfl),
  He.glo_ok X G (c.fact 29 (f := .glo "NoNumber") rfl),
  He.glo_ok X G (c.fact 30 (f := .glo "NoOrder") rfl),
  He.glo_ok X G (c.fact 31 (f := .glo "NoPairs") rfl),
  He.glo_ok X G (c.fact 32 (f := .glo "NoPutting") rfl),
  He.glo_ok X G (c.fact 33 (f := .glo "NoRow") rfl),
  He.glo_ok X G (c.fact 34 (f := .glo "NoRule") rfl),
  He.glo_ok X G (c.fact 35 (f := .glo "NoRules") rfl),
  He.glo_ok X G (c.fact 36 (f := .glo "NoShelf") rfl),
  He.glo_ok X G (c.fact 37 (f := .glo "NoSign") rfl),
  He.glo_ok X G (c.fact 38 (f := .glo "NoSigns") rfl),
  He.glo_ok X G (c.fact 39 (f := .glo "NoSpot") rfl),
  He.glo_ok X G (c.fact 40 (f := .glo "NoStep") rfl),
  He.glo_ok X G (c.fact 41 (f := .glo "NoTerm") rfl),
  He.glo_ok X G (c.fact 42 (f := .glo "NoTerms") rfl),
  He.glo_ok X G (c.fact 43 (f := .glo "NoText") rfl),
  He.glo_ok X G (c.fact 44 (f := .glo "NoTruth") rfl),
  He.glo_ok X G (c.fact 45 (f := .glo "NoWay") rfl),
  He.glo_ok X G (c.fact 46 (f := .glo "NoWeights") rfl),
  He.glo_ok X G (c.fact 47 (f := .glo "NoWord") rfl),
  He.glo_ok X G (c.fact 48 (f := .glo "NoWords") rfl),
  He.glo_ok X G (c.fact 49 (f := .glo "NotAdmitted") rfl),
  He.glo_ok X G (c.fact 50 (f := .glo "NotGround") rfl),
  He.glo_ok X G (c.fact 51 (f := .glo "NotLinear") rfl),
  He.glo_ok X G (c.fact 52 (f := .glo "NotOrdered") rfl),
  He.glo_ok X G (c.fact 53 (f := .glo "NotSame") rfl),
  He.glo_ok X G (c.fact 54 (f := .glo "NotThere") rfl),
  He.glo_ok X G (c.fact 55 (f := .glo "TermError") rfl),
  He.glo_ok X G (c.fact 56 (f := .glo "TooGreat") rfl),
  He.glo_ok X G (c.fact 57 (f := .glo "TooMany") rfl),
  He.glo_ok X G (c.fact 58 (f := .glo "Twice") rfl),
  He.glo_ok X G (c.fact 59 (f := .glo "Unended") rfl),
  He.glo_ok X G (c.fact 60 (f := .glo "Unfinished") rfl),
  He.glo_ok X G (c.fact 61 (f := .glo "Unlike") rfl),
  He.glo_ok X G (c.fact 62 (f := .glo "_law_box") rfl),
  He.glo_ok X G (c.fact 63 (f := .glo "_law_by_name") rfl),
  He.glo_ok X G (c.fact 64 (f := .glo "_law_by_place") rfl),
  He.glo_ok X G (c.fact 65 (f := .glo "_law_caught") rfl),
  He.glo_ok X G (c.fact 66 (f := .glo "_law_cell") rfl),
  He.glo_ok X G (c.fact 67 (f := .glo "_law_field") rfl),
  He.glo_ok X G (c.fact 68 (f := .glo "_law_others") rfl),
  He.glo_ok X G (c.fact 69 (f := .glo "_law_right") rfl),
  He.glo_ok X G (c.fact 70 (f := .glo "_law_sorts") rfl),
  He.glo_ok X G (c.fact 71 (f := .glo "_law_take") rfl),
  He.glo_ok X G (c.fact 72 (f := .glo "_law_thing") rfl),
  He.glo_ok X G (c.fact 73 (f := .glo "_law_very") rfl),
  He.ownBB_ok (xs := []) (He.ex_at e 0) (He.ex_at e 1),
  He.ownBB_ok (xs := []) (He.ex_at e 0) (He.ex_at e 2),
  He.oexBB_ok (He.ex_at e 3),
  He.excAB_ok (He.ex_at e 4),
  He.excAB_ok (He.ex_at e 5),
  He.excAB_ok (He.ex_at e 6),
  He.excAB_ok (He.ex_at e 7),
  He.excAB_ok (He.ex_at e 8),
  He.excAB_ok (He.ex_at e 9),
  He.excAB_ok (He.ex_at e 10),
  He.excAB_ok (He.ex_at e 11),
  He.excAB_ok (He.ex_at e 12),
  He.excAB_ok (He.ex_at e 13),
  He.excAB_ok (He.ex_at e 14),
  He.excAB_ok (He.ex_at e 15),
  He.excAB_ok (He.ex_at e 16),
  He.excAB_ok (He.ex_at e 17),
  He.excAB_ok (He.ex_at e 18),
  He.xfAB_ok (He.ex_at e 19),
  He.xfAB_ok (He.ex_at e 20),
  c.def_ 13 (d := d_NoCompleting___init__) rfl,
  c.def_ 14 (d := d_NoEquations___init__) rfl,
  c.def_ 15 (d := d_NoMakers___init__) rfl,
  c.def_ 16 (d := d_NoModel___init__) rfl,
  c.def_ 17 (d := d_NoNames___init__) rfl,
  c.def_ 18 (d := d_NoOrder___init__) rfl,
  c.def_ 19 (d := d_NoStep___init__) rfl,
  c.def_ 20 (d := d_NoTerm___init__) rfl,
  c.def_ 21 (d := d_NoWeights___init__) rfl,
  c.def_ 22 (d := d_NotAdmitted___init__) rfl,
  c.def_ 23 (d := d_NotGround___init__) rfl,
  c.def_ 24 (d := d_NotLinear___init__) rfl,
  c.def_ 25 (d := d_NotOrdered___init__) rfl,
  c.def_ 26 (d := d_NotSame___init__) rfl,
  c.def_ 27 (d := d_Unfinished___init__) rfl,
  L3.exmB_ok (He.ex_at e 21),
  He.exzB_ok (He.ex_at e 22)⟩
theorem run (w : World) : HandSHeadRun.RunEq R (PySem.W.view R.prog [65]) hk ob 20000 names w := fun os => join (runS w os) (runK w os) (runF w os) (runE w os)
end Hd
open PySem PySem.W PySem.Calls PyProof.Rows
theorem PySem.Challenge.cw_termproofs_k00_errors_of_proofs_holds : PySem.Challenge.rw_termproofs_k00_errors_of_proofs.Holds := by
  w_on; o_law
  refine HandSHeadRun.head_any (r := OpenLaw.row PySem.Challenge.rw_termproofs_k00_errors_of_proofs) (q := view (OpenLaw.row PySem.Challenge.rw_termproofs_k00_errors_of_proofs).prog [65]) (H := Hd.hk) (ob := Hd.ob) (M := 20000) (loose := Hd.names) (d := HandSHeadRun.topDef (OpenLaw.row PySem.Challenge.rw_termproofs_k00_errors_of_proofs).prog 65) (kwd := []) Hd.ob_eq
    (by kernel_rfl) (fun s => by kernel_rfl) Hd.run (by kernel_rfl) (by kernel_rfl) (by kernel_rfl) (by rfl) (by first | assumption | decide +kernel) (by decide +kernel) ⟨rfl, rfl, rfl, rfl, rfl, by decide +kernel⟩ ?hw ?hc
  case hw => w_witness2
  case hc =>
    refine L2.walk_ofG (l := PySem.Challenge.rw_termproofs_k00_errors_of_proofs) (n := 63) (k := 5) (x := "script") (CX := fun w => L2N.CX (PySem.W.OpenLaw.prog PySem.Challenge.rw_termproofs_k00_errors_of_proofs) w) rfl (by decide) (by kernel_rfl) ⟨rfl, by decide, by decide⟩ ?F (fun _ _ _ _ _ ⟨_, _, _, _, _, _, _, _, _, _, _, _, z⟩ => z)
    intro w mg fa h Y G hmg0
    obtain ⟨K, KX, c, e⟩ := Y
    have hmg : mg ("law" : PySem.Str) = some (.ref fa) := by
      have e : (HandSHeadRun.topDef (OpenLaw.row PySem.Challenge.rw_termproofs_k00_errors_of_proofs).prog 65).name = ("law" : PySem.Str) := by kernel_rfl
      rw [← e]
      exact hmg0
    have eg := hmg.symm.trans (He.glo_ok KX G (c.fact 74 (f := .glo "law") rfl))
    cases eg
    have fx := Hd.fx KX G c e
    obtain ⟨fd, F⟩ := fx.F_law
    have b := L2.FunD.bindsA (ps := ["script"]) F fun _ _ _ _ _ _ us hl => match us, hl with | [_], _ => rfl
    exact ⟨K, fd, L3.spOf (W.sp_law K), KX, fun s v => b s [v] rfl, fun H a ns hl hO hS => L3.start_scr (sp := W.sp_law K) ⟨_, rfl, W.law_true ⟨He.ex_at e 23, He.ex_at e 24, He.ex_at e 25⟩ ns⟩ hS, fun base _ _ => W.ok_law fx F⟩
