import PyProof.Rows.All
import Wide.All
import OpenK.AllK
import PySem.Challenge.RW_anywidths_k28_whole_rounds_of_small_nets
import HandS.Dict
import HandS.MakeKwOnly
import HandS.Comp
import HandS.DictComp
import HandS.ExcIs
import HandS.ExcField
import HandS.Lambda
import HandS.ExcValue
import HandS.HeadWalk
import Wide.FinOn
import HandS.ForMost
import HandS.ForExc
import HandS.HeadHook1
import HandS.HeadHook2
import HandS.Defaults
import HandS.ExcInit
import KE.GoesMore
import HandS.Property
import HandS.IsInst
import HandS.Codes
import HandS.OwnEq
import HandS.DeepEq
import HandS.DictEq
import HandS.More
import PyProof.InstNe
import HandS.Text
import HandS.Iter
import HandS.TupAny
import HandS.Style
import HandS.Small
import HandS.Conv
import HandS.WordsDict
import PyProof.P3In
import HandS.Zip
import HandS.MakeKw
import HandS.HeadHook4
import HandS.Head0
import HandS.Head1
import HandS.Head2
import HandS.HeadEnd
import HandS.HeadHook3
import KE.KStateDown
set_option Elab.async false
set_option linter.all false
set_option maxRecDepth 100000
set_option maxHeartbeats 4000000
namespace DL
open PySem PySem.Spec PyProof.Rows L2
abbrev St := L2.St

/-! ### data: values as trees -/
inductive D where
  | non
  | bl (b : Bool)
  | int (i : Int)
  | str (x : Str)
  | lst (xs : List D)
  | tup (xs : List D)
  | dct (kvs : List (Key × D))
  | ins (c : Str) (fs : List (Str × D))
  | exc (c : Str) (fs : List (Str × D))
instance : Inhabited D := ⟨.non⟩

/-- a dict that a loop has locked is the same dict -/
def vw : Option HO → Option HO
  | some (.frz _ (.dK k)) => some (.dK k)
  | some (.frz _ (.dT k)) => some (.dT k)
  | x => x
theorem vw_frzK {o : Obj} {k : List (Key × V)} : vw (some (.frz o (.dK k))) = some (.dK k) := rfl
theorem vw_of_lst {x : Option HO} {vs : List V} (h : vw x = some (.lst vs)) : x = some (.lst vs) := by
  unfold vw at h
  split at h <;> first | exact h | cases h
theorem vw_of_tup {x : Option HO} {vs : List V} (h : vw x = some (.tup vs)) : x = some (.tup vs) := by
  unfold vw at h
  split at h <;> first | exact h | cases h
theorem vw_of_ins {x : Option HO} {C dx : Addr} {fs : List (Str × V)} (h : vw x = some (.ins C dx fs)) : x = some (.ins C dx fs) := by
  unfold vw at h
  split at h <;> first | exact h | cases h
theorem vw_of_xd {x : Option HO} {fs : List (Str × V)} (h : vw x = some (.xd fs)) : x = some (.xd fs) := by
  unfold vw at h
  split at h <;> first | exact h | cases h
theorem vw_of_dK {x : Option HO} {k : List (Key × V)} (h : vw x = some (.dK k)) : x = some (.dK k) ∨ ∃ o, x = some (.frz o (.dK k)) := by
  unfold vw at h
  split at h
  · cases h; exact .inr ⟨_, rfl⟩
  · cases h
  · exact .inl h
theorem vw_rd {H : Hp} {a : Addr} {k : List (Key × V)} (h : vw (H a) = some (.dK k)) : Rd H a (.dK k) := by
  rcases vw_of_dK h with e | ⟨o, e⟩
  · exact .inl e
  · exact .inr ⟨o, e⟩

mutual
inductive Dat (K : PySem.W.Frag) (F : Addr → Prop) (H : Hp) : D → V → Prop
  | non : Dat K F H .non .non
  | bl {b : Bool} : Dat K F H (.bl b) (.bl b)
  | int {i : Int} : Dat K F H (.int i) (.int i)
  | str {x : Str} : Dat K F H (.str x) (.str x)
  | lst {a : Addr} {vs : List V} {ds : List D} (f : F a) (h : H a = some (.lst vs)) (r : Dats K F H ds vs) : Dat K F H (.lst ds) (.ref a)
  | tup {a : Addr} {vs : List V} {ds : List D} (f : F a) (h : H a = some (.tup vs)) (r : Dats K F H ds vs) : Dat K F H (.tup ds) (.ref a)
  | tupK {a : Addr} {o : Obj} {its : Array Value} {n : Nat} {vs : List V} {ds : List D} (hk : K.lookup a = some o) (hc : o.cls = .type "tuple") (hd : o.data = .seq its n) (hz : its.size ≤ sizeLine) (rv : Vals vs its.toList)
      (r : Dats K F H ds vs) : Dat K F H (.tup ds) (.ref a)
  | dct {a : Addr} {ks : List (Key × V)} {kvs : List (Key × D)} (f : F a) (h : vw (H a) = some (.dK ks)) (r : DatK K F H kvs ks) : Dat K F H (.dct kvs) (.ref a)
  | ins {a dx : Addr} {c : Str} {gs : List (Str × V)} {fs : List (Str × D)} (f : F a) (h : H a = some (.ins (He.ga K c) dx gs)) (r : DatF K F H fs gs) : Dat K F H (.ins c fs) (.ref a)
  | exc {a : Addr} {oe : Obj} {c : Str} {gs : List (Str × V)} {fs : List (Str × D)} (f : F a) (h : H a = some (.frz oe (.own a))) (hc : oe.cls = .ref (He.ga K c)) (hv : ∃ vs, oe.data = .fields vs)
      (hd : (gs = [] ∧ oe.dict = none) ∨ ∃ dd, oe.dict = some dd ∧ F dd ∧ H dd = some (.xd gs)) (r : DatF K F H fs gs) : Dat K F H (.exc c fs) (.ref a)
inductive Dats (K : PySem.W.Frag) (F : Addr → Prop) (H : Hp) : List D → List V → Prop
  | nil : Dats K F H [] []
  | cons {d : D} {v : V} {ds : List D} {vs : List V} (h : Dat K F H d v) (t : Dats K F H ds vs) : Dats K F H (d :: ds) (v :: vs)
inductive DatK (K : PySem.W.Frag) (F : Addr → Prop) (H : Hp) : List (Key × D) → List (Key × V) → Prop
  | nil : DatK K F H [] []
  | cons {k : Key} {d : D} {v : V} {ds : List (Key × D)} {vs : List (Key × V)} (h : Dat K F H d v) (t : DatK K F H ds vs) : DatK K F H ((k, d) :: ds) ((k, v) :: vs)
inductive DatF (K : PySem.W.Frag) (F : Addr → Prop) (H : Hp) : List (Str × D) → List (Str × V) → Prop
  | nil : DatF K F H [] []
  | cons {k : Str} {d : D} {v : V} {ds : List (Str × D)} {vs : List (Str × V)} (h : Dat K F H d v) (t : DatF K F H ds vs) : DatF K F H ((k, d) :: ds) ((k, v) :: vs)
end

/-- the same again (but for a new lock) -/
def Kp (y x : Option HO) : Prop := vw y = vw x ∧ ∀ o u, x = some (.frz o u) → y = x
theorem Kp.refl {x : Option HO} : Kp x x := ⟨rfl, fun _ _ _ => rfl⟩
theorem Kp.of {x y : Option HO} (e : y = x) : Kp y x := e ▸ Kp.refl
theorem Kp.trans {x y z : Option HO} (a : Kp z y) (b : Kp y x) : Kp z x := ⟨a.1.trans b.1, fun o u e => by
  have h := b.2 o u e
  rw [a.2 o u (h.trans e), h]⟩
/-- what is shared stays: it is never changed (but for a dict's lock) -/
def Ext (F : Addr → Prop) (H : Hp) (F' : Addr → Prop) (H' : Hp) : Prop := ∀ a, F a → F' a ∧ Kp (H' a) (H a)
theorem Ext.refl {F : Addr → Prop} {H : Hp} : Ext F H F H := fun _ f => ⟨f, Kp.refl⟩
theorem Ext.trans {F F1 F2 : Addr → Prop} {H H1 H2 : Hp} (a : Ext F H F1 H1) (b : Ext F1 H1 F2 H2) : Ext F H F2 H2 := fun c f =>
  ⟨(b c (a c f).1).1, (b c (a c f).1).2.trans (a c f).2⟩

section
variable {K : PySem.W.Frag} {F F' : Addr → Prop} {H H' : Hp}
mutual
theorem Dat.mono (e : Ext F H F' H') : ∀ {d : D} {v : V}, Dat K F H d v → Dat K F' H' d v
  | _, _, .non => .non
  | _, _, .bl => .bl
  | _, _, .int => .int
  | _, _, .str => .str
  | _, _, .lst f h r => .lst (e _ f).1 (vw_of_lst ((e _ f).2.1.trans (by rw [h]; rfl))) (Dats.mono e r)
  | _, _, .tup f h r => .tup (e _ f).1 (vw_of_tup ((e _ f).2.1.trans (by rw [h]; rfl))) (Dats.mono e r)
  | _, _, .tupK hk hc hd hz rv r => .tupK hk hc hd hz rv (Dats.mono e r)
  | _, _, .dct f h r => .dct (e _ f).1 ((e _ f).2.1.trans h) (DatK.mono e r)
  | _, _, .ins f h r => .ins (e _ f).1 (vw_of_ins ((e _ f).2.1.trans (by rw [h]; rfl))) (DatF.mono e r)
  | _, _, .exc f h hc hv hd r => .exc (e _ f).1 (((e _ f).2.2 _ _ h).trans h) hc hv (hd.imp id fun ⟨dd, h1, h2, h3⟩ => ⟨dd, h1, (e _ h2).1, vw_of_xd ((e _ h2).2.1.trans (by rw [h3]; rfl))⟩) (DatF.mono e r)
theorem Dats.mono (e : Ext F H F' H') : ∀ {ds : List D} {vs : List V}, Dats K F H ds vs → Dats K F' H' ds vs
  | _, _, .nil => .nil
  | _, _, .cons h t => .cons (Dat.mono e h) (Dats.mono e t)
theorem DatK.mono (e : Ext F H F' H') : ∀ {ds : List (Key × D)} {vs : List (Key × V)}, DatK K F H ds vs → DatK K F' H' ds vs
  | _, _, .nil => .nil
  | _, _, .cons h t => .cons (Dat.mono e h) (DatK.mono e t)
theorem DatF.mono (e : Ext F H F' H') : ∀ {ds : List (Str × D)} {vs : List (Str × V)}, DatF K F H ds vs → DatF K F' H' ds vs
  | _, _, .nil => .nil
  | _, _, .cons h t => .cons (Dat.mono e h) (DatF.mono e t)
end
theorem Dats.length : ∀ {ds : List D} {vs : List V}, Dats K F H ds vs → ds.length = vs.length
  | _, _, .nil => rfl
  | _, _, .cons _ t => congrArg Nat.succ t.length
theorem Dats.get : ∀ {ds : List D} {vs : List V} {i : Nat} {d : D}, Dats K F H ds vs → ds[i]? = some d → ∃ v, vs[i]? = some v ∧ Dat K F H d v
  | _, _, _, _, .nil, e => by simp at e
  | _, _, 0, _, .cons h _, e => by simp at e; subst e; exact ⟨_, rfl, h⟩
  | _, _, i + 1, _, .cons _ t, e => by
    obtain ⟨v, h1, h2⟩ := Dats.get (i := i) t (by simpa using e)
    exact ⟨v, by simpa using h1, h2⟩
theorem Dats.getV : ∀ {ds : List D} {vs : List V} {i : Nat} {v : V}, Dats K F H ds vs → vs[i]? = some v → ∃ d, ds[i]? = some d ∧ Dat K F H d v
  | _, _, _, _, .nil, e => by simp at e
  | _, _, 0, _, .cons h _, e => by simp at e; subst e; exact ⟨_, rfl, h⟩
  | _, _, i + 1, _, .cons _ t, e => by
    obtain ⟨v, h1, h2⟩ := Dats.getV (i := i) t (by simpa using e)
    exact ⟨v, by simpa using h1, h2⟩
theorem Dats.append : ∀ {ds es : List D} {vs ws : List V}, Dats K F H ds vs → Dats K F H es ws → Dats K F H (ds ++ es) (vs ++ ws)
  | _, _, _, _, .nil, s => s
  | _, _, _, _, .cons h t, s => .cons h (t.append s)
theorem Dats.take : ∀ {ds : List D} {vs : List V} (n : Nat), Dats K F H ds vs → Dats K F H (ds.take n) (vs.take n)
  | _, _, 0, _ => by simp; exact .nil
  | _, _, _ + 1, .nil => by simp; exact .nil
  | _, _, n + 1, .cons h t => by simp only [List.take_succ_cons]; exact .cons h (t.take n)
theorem Dats.drop : ∀ {ds : List D} {vs : List V} (n : Nat), Dats K F H ds vs → Dats K F H (ds.drop n) (vs.drop n)
  | _, _, 0, h => by simpa using h
  | _, _, _ + 1, .nil => by simp; exact .nil
  | _, _, n + 1, .cons h t => by simp only [List.drop_succ_cons]; exact t.drop n
theorem Dats.set : ∀ {ds : List D} {vs : List V} {d : D} {v : V} (i : Nat), Dats K F H ds vs → Dat K F H d v → Dats K F H (ds.set i d) (vs.set i v)
  | _, _, _, _, _, .nil, _ => .nil
  | _, _, _, _, 0, .cons _ t, h => .cons h t
  | _, _, _, _, i + 1, .cons h' t, h => .cons h' (t.set i h)
theorem Dats.erase : ∀ {ds : List D} {vs : List V} (i : Nat), Dats K F H ds vs → Dats K F H (ds.eraseIdx i) (vs.eraseIdx i)
  | _, _, _, .nil => by simp; exact .nil
  | _, _, 0, .cons h t => by simpa using t
  | _, _, i + 1, .cons h t => by simp only [List.eraseIdx_cons_succ]; exact .cons h (t.erase i)
theorem Dats.reverse : ∀ {ds : List D} {vs : List V}, Dats K F H ds vs → Dats K F H ds.reverse vs.reverse
  | _, _, .nil => .nil
  | _, _, .cons h t => by simp only [List.reverse_cons]; exact t.reverse.append (.cons h .nil)
theorem Dats.dropLast : ∀ {ds : List D} {vs : List V}, Dats K F H ds vs → Dats K F H ds.dropLast vs.dropLast
  | _, _, .nil => .nil
  | _, _, .cons h .nil => .nil
  | _, _, .cons h (.cons h2 t) => .cons h (Dats.dropLast (.cons h2 t))
theorem DatK.length : ∀ {ds : List (Key × D)} {vs : List (Key × V)}, DatK K F H ds vs → ds.length = vs.length
  | _, _, .nil => rfl
  | _, _, .cons _ t => congrArg Nat.succ t.length
theorem DatK.keys : ∀ {ds : List (Key × D)} {vs : List (Key × V)}, DatK K F H ds vs → vs.map (·.1) = ds.map (·.1)
  | _, _, .nil => rfl
  | _, _, .cons _ t => congrArg _ t.keys
theorem DatK.vals : ∀ {ds : List (Key × D)} {vs : List (Key × V)}, DatK K F H ds vs → Dats K F H (ds.map (·.2)) (vs.map (·.2))
  | _, _, .nil => .nil
  | _, _, .cons h t => .cons h t.vals
theorem DatF.keys : ∀ {ds : List (Str × D)} {vs : List (Str × V)}, DatF K F H ds vs → vs.map (·.1) = ds.map (·.1)
  | _, _, .nil => rfl
  | _, _, .cons _ t => congrArg _ t.keys
theorem DatF.length : ∀ {ds : List (Str × D)} {vs : List (Str × V)}, DatF K F H ds vs → ds.length = vs.length
  | _, _, .nil => rfl
  | _, _, .cons _ t => congrArg Nat.succ t.length
theorem DatF.look : ∀ {ds : List (Str × D)} {vs : List (Str × V)} {f : Str} {d : D}, DatF K F H ds vs → ds.lookup f = some d → ∃ v, vs.lookup f = some v ∧ Dat K F H d v
  | _, _, _, _, .nil, e => by simp at e
  | _, _, f, d, .cons (k := k) h t, e => by
    rw [List.lookup_cons] at e ⊢
    cases q : f == k with
    | true => simp only [q] at e; cases e; exact ⟨_, rfl, h⟩
    | false => simp only [q] at e; exact t.look e
theorem DatF.lookN : ∀ {ds : List (Str × D)} {vs : List (Str × V)} {f : Str}, DatF K F H ds vs → ds.lookup f = none → vs.lookup f = none
  | _, _, _, .nil, e => by simp
  | _, _, f, .cons (k := k) h t, e => by
    rw [List.lookup_cons] at e ⊢
    cases q : f == k with
    | true => simp only [q] at e; cases e
    | false => simp only [q] at e; exact t.lookN e
end

/-! ### the plain forms of a datum -/
def vD (kvs : List (Key × D)) (k : Key) : Option D := (kvs.find? fun kv => decide (kv.1 = k)).map (·.2)
def putD (kvs : List (Key × D)) (k : Key) (d : D) : List (Key × D) :=
  if (kvs.any fun kv => decide (kv.1 = k)) = true then kvs.map fun kv => if kv.1 = k then (kv.1, d) else kv else kvs ++ [(k, d)]
section
variable {K : PySem.W.Frag} {F F' : Addr → Prop} {H H' : Hp}
theorem DatK.val : ∀ {ds : List (Key × D)} {vs : List (Key × V)} (r : DatK K F H ds vs) (k : Key), (vD ds k = none ∧ valV vs k = none) ∨ ∃ d v, vD ds k = some d ∧ valV vs k = some v ∧ Dat K F H d v
  | _, _, .nil, k => .inl ⟨rfl, rfl⟩
  | _, _, .cons (k := k') (d := d) (v := v) (ds := ds) (vs := vs) h t, k => by
    by_cases e : k' = k
    · refine .inr ⟨d, v, ?_, ?_, h⟩
      · simp [vD, List.find?_cons, e]
      · simp [valV, List.find?_cons, e]
    · rcases t.val k with ⟨h1, h2⟩ | ⟨d2, v2, h1, h2, h3⟩
      · refine .inl ⟨?_, ?_⟩
        · simpa [vD, List.find?_cons, e] using h1
        · simpa [valV, List.find?_cons, e] using h2
      · refine .inr ⟨d2, v2, ?_, ?_, h3⟩
        · simpa [vD, List.find?_cons, e] using h1
        · simpa [valV, List.find?_cons, e] using h2
theorem DatK.repl {k : Key} {d : D} {v : V} (h : Dat K F H d v) : ∀ {ds : List (Key × D)} {vs : List (Key × V)}, DatK K F H ds vs →
    DatK K F H (ds.map fun kv => if kv.1 = k then (kv.1, d) else kv) (vs.map fun kv => if kv.1 = k then (kv.1, v) else kv)
  | _, _, .nil => .nil
  | _, _, .cons (k := k') h' t => by
    simp only [List.map_cons]
    by_cases e : k' = k
    · simp only [e, if_true]; exact .cons h (t.repl h)
    · simp only [e, if_false]; exact .cons h' (t.repl h)
theorem DatK.app : ∀ {ds es : List (Key × D)} {vs ws : List (Key × V)}, DatK K F H ds vs → DatK K F H es ws → DatK K F H (ds ++ es) (vs ++ ws)
  | _, _, _, _, .nil, s => s
  | _, _, _, _, .cons h t, s => .cons h (t.app s)
theorem DatK.any (k : Key) : ∀ {ds : List (Key × D)} {vs : List (Key × V)}, DatK K F H ds vs → (ds.any fun kv => decide (kv.1 = k)) = vs.any fun kv => decide (kv.1 = k)
  | _, _, .nil => rfl
  | _, _, .cons h t => by simp only [List.any_cons, t.any k]
theorem DatK.put {ds : List (Key × D)} {vs : List (Key × V)} (r : DatK K F H ds vs) (k : Key) {d : D} {v : V} (h : Dat K F H d v) : DatK K F H (putD ds k d) (putK vs k v) := by
  unfold putD putK
  rw [r.any k]
  split
  · exact r.repl h
  · exact r.app (.cons h .nil)
end

/-! ### ownership -/
/-- the state of a law's draws: the dict at p, the great cells at g, the cells at c; n more draws are left -/
def StAt (H : Hp) (p g c : Addr) (n : Nat) : Prop := ∃ (gs cs : List Int) (r t : Int),
  H p = some (.dK [(.inr "great", .ref g), (.inr "cells", .ref c), (.inr "rest", .int r), (.inr "turn", .int t)]) ∧ H g = some (.lst (gs.map V.int)) ∧ H c = some (.lst (cs.map V.int)) ∧ g ≠ c ∧
  0 ≤ r ∧ 0 ≤ t ∧ t + n ≤ 1000000000 ∧ (∀ x ∈ gs, 0 ≤ x) ∧ ∀ x ∈ cs, 0 ≤ x
inductive Sl where
  | un
  | im (d : D)
  | ow (d : D)
  | pm (d : D)
  | st (n : Nat)
structure Gh where
  H0 : Hp
  F0 : Addr → Prop
  M0 : List Addr
  T : List (Addr × Str)
  S0 : St
def Sl.ps : Sl → Bool
  | .pm _ => true
  | .st _ => true
  | _ => false
/-- an object that one slot alone holds -/
def Own (K : PySem.W.Frag) (F : Addr → Prop) (H : Hp) : D → Addr → Prop
  | .lst ds, a => ∃ vs, H a = some (.lst vs) ∧ Dats K F H ds vs
  | .dct kvs, a => ∃ ks, H a = some (.dK ks) ∧ DatK K F H kvs ks
  | .ins c fs, a => ∃ dx gs, H a = some (.ins (He.ga K c) dx gs) ∧ DatF K F H fs gs
  | _, _ => False
def SlR (K : PySem.W.Frag) (F : Addr → Prop) (H : Hp) : Sl → Option V → List Addr → Prop
  | .un, _, l => l = []
  | .im d, o, l => l = [] ∧ ∃ v, o = some v ∧ Dat K F H d v
  | .ow d, o, l => ∃ a, l = [a] ∧ o = some (.ref a) ∧ Own K F H d a
  | .pm d, o, l => ∃ a, l = [a] ∧ o = some (.ref a) ∧ Own K F H d a
  | .st n, o, l => ∃ p g c, l = [p, g] ∧ o = some (.ref p) ∧ F c ∧ StAt H p g c n
/-- what data are made of -/
def dataO : HO → Bool
  | .lst _ => true
  | .tup _ => true
  | .dK _ => true
  | .dT _ => true
  | .ins _ _ _ => true
  | .frz _ (.dK _) => true
  | .frz _ (.dT _) => true
  | .frz _ (.own _) => true
  | .xd _ => true
  | _ => false

def dataP : Option HO → Bool
  | some u => dataO u
  | none => false
theorem dataP_vw (x : Option HO) : dataP (vw x) = dataP x := by
  unfold vw
  split <;> rfl
theorem vw_data {x y : Option HO} (e : vw y = vw x) {u : HO} (hx : x = some u) (du : dataO u = true) : ∃ w, y = some w ∧ dataO w = true := by
  have h : dataP y = true := by rw [← dataP_vw, e, dataP_vw, hx]; exact du
  cases y with
  | none => cases h
  | some w => exact ⟨w, rfl, h⟩

structure SR (K : PySem.W.Frag) (G : Gh) (tmp : List (Addr × HO)) (F : Addr → Prop) (σ : St) (H : Hp) (env : List Sl) (fp : Nat → List Addr) : Prop where
  len : σ.length = env.length
  sl : ∀ i s, env[i]? = some s → ∃ o, σ[i]? = some o ∧ SlR K F H s o (fp i)
  dj : ∀ i j a, a ∈ fp i → a ∈ fp j → i = j
  nf : ∀ i a, a ∈ fp i → ¬ F a
  ne : ∀ i a, a ∈ fp i → a ∈ G.M0 ∨ G.H0 a = none
  loc : ∀ i d, env[i]? = some (.ow d) → ∀ a ∈ fp i, G.H0 a = none
  own : ∀ i a, a ∈ fp i → ∃ o, H a = some o ∧ dataO o = true
  tm : ∀ p ∈ tmp, H p.1 = some p.2 ∧ ¬ F p.1 ∧ G.H0 p.1 = none ∧ ∀ i, p.1 ∉ fp i
  dom : ∀ a, F a → ∃ o, H a = some o ∧ dataO o = true
  keepN : ∀ a o, G.H0 a = some o → a ∉ G.M0 → ¬ G.F0 a → H a = some o
  keepF : ∀ a, G.F0 a → F a ∧ Kp (H a) (G.H0 a)
  grow : ∀ a, F a → G.F0 a ∨ G.H0 a = none
  tabs : LamX.Tabs G.T H
  m0 : ∀ a ∈ G.M0, ∃ o, H a = some o
  par : ∀ i s, env[i]? = some s → s.ps = true → i < G.S0.length → σ[i]? = G.S0[i]?
  ls : G.S0.length ≤ env.length
  td : ∀ p ∈ tmp, dataO p.2 = true

section
variable {K : PySem.W.Frag} {G : Gh} {tmp : List (Addr × HO)} {F F' : Addr → Prop} {σ σ' : St} {H H' : Hp} {env env' : List Sl} {fp fp' : Nat → List Addr}
theorem Own.mono {d : D} {a : Addr} (e : Ext F H F' H') (h : H' a = H a) (o : Own K F H d a) : Own K F' H' d a := by
  cases d with
  | lst ds => obtain ⟨vs, h1, r⟩ := o; exact ⟨vs, h.trans h1, r.mono e⟩
  | dct kvs => obtain ⟨ks, h1, r⟩ := o; exact ⟨ks, h.trans h1, r.mono e⟩
  | ins c fs => obtain ⟨dx, gs, h1, r⟩ := o; exact ⟨dx, gs, h.trans h1, r.mono e⟩
  | _ => exact o.elim
theorem Own.data {d : D} {a : Addr} (o : Own K F H d a) : ∃ u, H a = some u ∧ dataO u = true := by
  cases d with
  | lst ds => obtain ⟨vs, h1, r⟩ := o; exact ⟨_, h1, rfl⟩
  | dct kvs => obtain ⟨ks, h1, r⟩ := o; exact ⟨_, h1, rfl⟩
  | ins c fs => obtain ⟨dx, gs, h1, r⟩ := o; exact ⟨_, h1, rfl⟩
  | _ => exact o.elim
theorem StAt.same {p g c : Addr} {n : Nat} (h : StAt H p g c n) (e : ∀ a ∈ [p, g, c], H' a = H a) : StAt H' p g c n := by
  obtain ⟨gs, cs, r, t, h1, h2, h3, q⟩ := h
  exact ⟨gs, cs, r, t, (e p (by simp)).trans h1, (e g (by simp)).trans h2, (e c (by simp)).trans h3, q⟩
theorem SlR.same {s : Sl} {o : Option V} {l : List Addr} (r : SlR K F H s o l) (e : Ext F H F' H') (h : ∀ a ∈ l, H' a = H a) : SlR K F' H' s o l := by
  cases s with
  | un => exact r
  | im d => obtain ⟨rfl, v, rfl, q⟩ := r; exact ⟨rfl, v, rfl, q.mono e⟩
  | ow d => obtain ⟨a, rfl, rfl, q⟩ := r; exact ⟨a, rfl, rfl, q.mono e (h a (by simp))⟩
  | pm d => obtain ⟨a, rfl, rfl, q⟩ := r; exact ⟨a, rfl, rfl, q.mono e (h a (by simp))⟩
  | st n =>
    obtain ⟨p, g, c, rfl, rfl, fc, q⟩ := r
    refine ⟨p, g, c, rfl, rfl, (e c fc).1, q.same fun a ha => ?_⟩
    obtain ⟨gs, cs, r, t, h1, h2, h3, _⟩ := q
    simp at ha
    rcases ha with rfl | rfl | rfl
    · exact h _ (by simp)
    · exact h _ (by simp)
    · exact (vw_of_lst ((e _ fc).2.1.trans (by rw [h3]; rfl))).trans h3.symm
theorem SlR.data {s : Sl} {o : Option V} {l : List Addr} (r : SlR K F H s o l) : ∀ a ∈ l, ∃ u, H a = some u ∧ dataO u = true := by
  cases s with
  | un => intro a ha; rw [show l = [] from r] at ha; cases ha
  | im d => obtain ⟨rfl, _⟩ := r; intro a ha; cases ha
  | ow d => obtain ⟨a, rfl, rfl, q⟩ := r; intro b hb; simp at hb; subst hb; exact q.data
  | pm d => obtain ⟨a, rfl, rfl, q⟩ := r; intro b hb; simp at hb; subst hb; exact q.data
  | st n =>
    obtain ⟨p, g, c, rfl, rfl, _, gs, cs, r, t, h1, h2, h3, q⟩ := r
    intro b hb
    simp at hb
    rcases hb with rfl | rfl
    · exact ⟨_, h1, rfl⟩
    · exact ⟨_, h2, rfl⟩
/-- tables stay where nothing but data changes -/
theorem tabs_keep {T : List (Addr × Str)} (t : LamX.Tabs T H) (h : ∀ a o, H a = some o → dataO o = false → H' a = some o) : LamX.Tabs T H' := fun p hp => by
  obtain ⟨ps, h1, h2, h3⟩ := t p hp
  refine ⟨ps, h _ _ h1 rfl, h2, fun pos cv hc => ?_⟩
  obtain ⟨c, e1, e2⟩ := h3 pos cv hc
  exact ⟨c, e1, h _ _ e2 rfl⟩
/-- THE STEP: H' is H but at the owned places and new ones (and locks) -/
structure Ch (F : Addr → Prop) (W : Addr → Prop) (H H' : Hp) : Prop where
  n : ∀ a o, H a = some o → ¬ F a → ¬ W a → H' a = some o
  f : ∀ a, F a → Kp (H' a) (H a)
  t : ∀ a o, H a = some o → ∃ o', H' a = some o'
theorem SR.gen (S : SR K G tmp F σ H env fp) (hl : σ'.length = env'.length) (hle : env.length ≤ env'.length) (W : Addr → Prop) (hW : ∀ a, W a → ∃ i, a ∈ fp i) (ch : Ch F W H H') (hF : ∀ a, F a → F' a)
    (hs : ∀ j s, env'[j]? = some s → (env[j]? = some s ∧ σ'[j]? = σ[j]? ∧ fp' j = fp j ∧ ∀ a ∈ fp j, H' a = H a) ∨ ∃ o, σ'[j]? = some o ∧ SlR K F' H' s o (fp' j) ∧ (s.ps = true → j < G.S0.length → σ'[j]? = G.S0[j]?))
    (dj : ∀ i j a, a ∈ fp' i → a ∈ fp' j → i = j) (nf : ∀ i a, a ∈ fp' i → ¬ F' a)
    (ne : ∀ i a, a ∈ fp' i → a ∈ fp i ∨ a ∈ G.M0 ∨ G.H0 a = none)
    (loc : ∀ j d, env'[j]? = some (.ow d) → (env[j]? = some (.ow d) ∧ fp' j = fp j) ∨ ∀ a ∈ fp' j, G.H0 a = none)
    (own : ∀ i a, a ∈ fp' i → ∃ o, H' a = some o ∧ dataO o = true)
    (ntm : ∀ p ∈ tmp, ¬ F' p.1 ∧ ∀ i, p.1 ∉ fp' i)
    (dom : ∀ a, F' a → ∃ o, H' a = some o ∧ dataO o = true)
    (grow : ∀ a, F' a → F a ∨ (∃ i, a ∈ fp i ∧ a ∉ G.M0) ∨ G.H0 a = none) : SR K G tmp F' σ' H' env' fp' where
  len := hl
  sl := fun j s h => by
    have e : Ext F H F' H' := fun a f => ⟨hF a f, ch.f a f⟩
    rcases hs j s h with ⟨h1, h2, h3, h4⟩ | h'
    · obtain ⟨o, h5, h6⟩ := S.sl j s h1
      exact ⟨o, h2.trans h5, by rw [h3]; exact h6.same e h4⟩
    · exact ⟨h'.choose, h'.choose_spec.1, h'.choose_spec.2.1⟩
  par := fun j s h p l => by
    rcases hs j s h with ⟨h1, h2, h3, h4⟩ | ⟨o, h1, h2, h3⟩
    · exact h2.trans (S.par j s h1 p l)
    · exact h3 p l
  ls := Nat.le_trans S.ls hle
  td := S.td
  dj := dj
  nf := nf
  ne := fun i a h => by
    rcases ne i a h with h | h
    · exact S.ne i a h
    · exact h
  loc := fun j d h => by
    rcases loc j d h with ⟨h1, h2⟩ | h1
    · rw [h2]; exact S.loc j d h1
    · exact h1
  own := own
  tm := fun p hp => by
    obtain ⟨h1, h2, h3, h4⟩ := S.tm p hp
    refine ⟨ch.n _ _ h1 h2 fun w => ?_, (ntm p hp).1, h3, (ntm p hp).2⟩
    obtain ⟨i, hi⟩ := hW _ w
    exact h4 i hi
  dom := dom
  keepN := fun a o h1 h2 h3 => by
    have h4 := S.keepN a o h1 h2 h3
    refine ch.n _ _ h4 (fun f => ?_) fun w => ?_
    · rcases S.grow a f with z | z
      · exact h3 z
      · rw [h1] at z; cases z
    · obtain ⟨i, hi⟩ := hW _ w
      rcases S.ne i a hi with z | z
      · exact h2 z
      · rw [h1] at z; cases z
  keepF := fun a f => ⟨hF a (S.keepF a f).1, (ch.f a (S.keepF a f).1).trans (S.keepF a f).2⟩
  grow := fun a f => by
    rcases grow a f with h | ⟨i, hi, hm⟩ | h
    · exact S.grow a h
    · rcases S.ne i a hi with z | z
      · exact absurd z hm
      · exact .inr z
    · exact .inr h
  tabs := tabs_keep S.tabs fun a o h d => by
    refine ch.n _ _ h (fun f => ?_) fun w => ?_
    · obtain ⟨u, hu, du⟩ := S.dom a f
      rw [h] at hu; cases hu; rw [d] at du; cases du
    · obtain ⟨i, hi⟩ := hW _ w
      obtain ⟨u, hu, du⟩ := S.own i a hi
      rw [h] at hu; cases hu; rw [d] at du; cases du
  m0 := fun a h => by
    obtain ⟨o, e⟩ := S.m0 a h
    exact ch.t a o e
theorem SR.isS (S : SR K G tmp F σ H env fp) {i : Nat} {a : Addr} (h : a ∈ fp i) : ∃ o, H a = some o := let ⟨o, e, _⟩ := S.own i a h; ⟨o, e⟩
theorem SR.newFp (S : SR K G tmp F σ H env fp) {p : Addr} (hp : H p = none) : ∀ i, p ∉ fp i := fun i h => by
  obtain ⟨o, e⟩ := S.isS h
  rw [hp] at e; cases e
theorem SR.newF (S : SR K G tmp F σ H env fp) {p : Addr} (hp : H p = none) : ¬ F p := fun h => by
  obtain ⟨o, e, _⟩ := S.dom p h
  rw [hp] at e; cases e
theorem SR.newT (S : SR K G tmp F σ H env fp) {p : Addr} (hp : H p = none) : ∀ q ∈ tmp, q.1 ≠ p := fun q hq e => by
  obtain ⟨h1, _⟩ := S.tm q hq
  rw [e, hp] at h1; cases h1
theorem SR.newG (S : SR K G tmp F σ H env fp) {p : Addr} (hp : H p = none) : G.H0 p = none := by
  cases q : G.H0 p with
  | none => rfl
  | some o =>
    exfalso
    by_cases hm : p ∈ G.M0
    · obtain ⟨o, e⟩ := S.m0 p hm
      rw [hp] at e; cases e
    · by_cases hf : G.F0 p
      · exact absurd (S.keepF p hf).1 (S.newF hp)
      · have := S.keepN p o q hm hf
        rw [hp] at this; cases this
end
end DL
namespace DL
open PySem PySem.Spec PyProof.Rows L2

/-! ### what an expression gives: shared data, a new object, what a slot alone holds -/
inductive R where
  | sh (d : D)
  | fr (d : D)
  | br (i : Nat)
abbrev EnvD := List Sl
def R.hold : R → R
  | .fr d => .sh d
  | r => r
def pk (env : EnvD) : R → Option D
  | .sh d => some d
  | .fr d => some d
  | .br i => match env[i]? with
    | some (.ow d) => some d
    | some (.pm d) => some d
    | _ => none
/-- shared from now on -/
def fz (r : R) (env : EnvD) (Q : D → EnvD → Prop) : Prop := match r with
  | .sh d => Q d env
  | .fr d => Q d env
  | .br i => match env[i]? with
    | some (.ow d) => Q d (env.set i (.im d))
    | _ => False
def fzs : List R → EnvD → (List D → EnvD → Prop) → Prop
  | [], env, Q => Q [] env
  | r :: rs, env, Q => fz r env fun d env1 => fzs rs env1 fun ds env2 => Q (d :: ds) env2
def pks (env : EnvD) : List R → Option (List D)
  | [] => some []
  | r :: rs => match pk env r, pks env rs with
    | some d, some ds => some (d :: ds)
    | _, _ => none

def RV (K : PySem.W.Frag) (G : Gh) (tmp : List (Addr × HO)) (F : Addr → Prop) (σ : St) (H : Hp) (env : EnvD) (fp : Nat → List Addr) : V → R → Prop
  | v, .sh d => Dat K F H d v
  | v, .fr d => ∃ a, v = .ref a ∧ Own K F H d a ∧ ¬ F a ∧ (∀ i, a ∉ fp i) ∧ G.H0 a = none ∧ ∀ q ∈ tmp, q.1 ≠ a
  | v, .br i => σ[i]? = some (some v)
inductive RVs (K : PySem.W.Frag) (G : Gh) (tmp : List (Addr × HO)) (F : Addr → Prop) (σ : St) (H : Hp) (env : EnvD) (fp : Nat → List Addr) : List V → List R → Prop
  | nil : RVs K G tmp F σ H env fp [] []
  | sh {v : V} {d : D} {vs : List V} {rs : List R} (h : Dat K F H d v) (t : RVs K G tmp F σ H env fp vs rs) : RVs K G tmp F σ H env fp (v :: vs) (.sh d :: rs)
  | br {v : V} {i : Nat} {vs : List V} {rs : List R} (h : σ[i]? = some (some v)) (t : RVs K G tmp F σ H env fp vs rs) : RVs K G tmp F σ H env fp (v :: vs) (.br i :: rs)
/-- the value looks like the datum -/
def Lk (K : PySem.W.Frag) (F : Addr → Prop) (H : Hp) (d : D) (v : V) : Prop := Dat K F H d v ∨ ∃ a, v = .ref a ∧ Own K F H d a
inductive Lks (K : PySem.W.Frag) (F : Addr → Prop) (H : Hp) : List D → List V → Prop
  | nil : Lks K F H [] []
  | cons {d : D} {v : V} {ds : List D} {vs : List V} (h : Lk K F H d v) (t : Lks K F H ds vs) : Lks K F H (d :: ds) (v :: vs)

section
variable {K : PySem.W.Frag} {G : Gh} {tmp : List (Addr × HO)} {F F' : Addr → Prop} {σ σ' : St} {H H' : Hp} {env env' : EnvD} {fp fp' : Nat → List Addr}

theorem Ch.refl {W : Addr → Prop} : Ch F W H H := ⟨fun _ _ h _ _ => h, fun _ _ => Kp.refl, fun _ o h => ⟨o, h⟩⟩
theorem Ch.upd {W : Addr → Prop} {p : Addr} {o : HO} (hp : H p = none) (hf : ¬ F p) : Ch F W H (upd H p o) :=
  ⟨fun a u h _ _ => by rw [upd_ne (ne_of_none h hp)]; exact h, fun a f => Kp.of (by rw [upd_ne (fun (e : a = p) => hf (e ▸ f))]), fun a u h => ⟨u, by rw [upd_ne (ne_of_none h hp)]; exact h⟩⟩
theorem Ext.upd {p : Addr} {o : HO} (hf : ¬ F p) : Ext F H F (upd H p o) := fun a f => ⟨f, Kp.of (by rw [upd_ne (fun (e : a = p) => hf (e ▸ f))])⟩
/-- a new object beside: nobody's as yet -/
theorem SR.alloc (S : SR K G tmp F σ H env fp) {p : Addr} {o : HO} (hp : H p = none) : SR K G tmp F σ (upd H p o) env fp := by
  refine S.gen S.len (Nat.le_refl _) (fun _ => False) (fun _ w => w.elim) (Ch.upd hp (S.newF hp)) (fun _ f => f) (fun j s h => .inl ⟨h, rfl, rfl, fun a ha => upd_ne fun e => S.newFp hp j (e ▸ ha)⟩) S.dj S.nf
    (fun i a h => .inl h) (fun j d h => .inl ⟨h, rfl⟩) (fun i a h => ?_) (fun q hq => ⟨(S.tm q hq).2.1, (S.tm q hq).2.2.2⟩) (fun a f => ?_) (fun a f => .inl f)
  · obtain ⟨u, hu, du⟩ := S.own i a h
    exact ⟨u, by rw [upd_ne (ne_of_none hu hp)]; exact hu, du⟩
  · obtain ⟨u, hu, du⟩ := S.dom a f
    exact ⟨u, by rw [upd_ne (ne_of_none hu hp)]; exact hu, du⟩
/-- an object that no slot holds becomes shared -/
theorem SR.share (S : SR K G tmp F σ H env fp) {p : Addr} {o : HO} (hp : H p = some o) (hd : dataO o = true) (h1 : ∀ i, p ∉ fp i) (h2 : G.H0 p = none) (h3 : ∀ q ∈ tmp, q.1 ≠ p) :
    SR K G tmp (fun a => F a ∨ a = p) σ H env fp := by
  refine S.gen S.len (Nat.le_refl _) (fun _ => False) (fun _ w => w.elim) Ch.refl (fun _ f => .inl f) (fun j s h => .inl ⟨h, rfl, rfl, fun a ha => rfl⟩) S.dj (fun i a h f => ?_) (fun i a h => .inl h) (fun j d h => .inl ⟨h, rfl⟩) S.own
    (fun q hq => ⟨fun f => ?_, (S.tm q hq).2.2.2⟩) (fun a f => ?_) (fun a f => ?_)
  · rcases f with f | rfl
    · exact S.nf i a h f
    · exact h1 i h
  · rcases f with f | f
    · exact (S.tm q hq).2.1 f
    · exact h3 q hq f
  · rcases f with f | rfl
    · exact S.dom a f
    · exact ⟨o, hp, hd⟩
  · rcases f with f | rfl
    · exact .inl f
    · exact .inr (.inr h2)
theorem Ext.share {p : Addr} : Ext F H (fun a => F a ∨ a = p) H := fun a f => ⟨.inl f, Kp.refl⟩
theorem Own.dat {d : D} {a : Addr} (o : Own K F H d a) (f : F a) : Dat K F H d (.ref a) := by
  cases d with
  | lst ds => obtain ⟨vs, h1, r⟩ := o; exact .lst f h1 r
  | dct kvs => obtain ⟨ks, h1, r⟩ := o; exact .dct f (by rw [h1]; rfl) r
  | ins c fs => obtain ⟨dx, gs, h1, r⟩ := o; exact .ins f h1 r
  | _ => exact o.elim
/-- a new object is shared -/
theorem SR.shareFr (S : SR K G tmp F σ H env fp) {v : V} {d : D} (r : RV K G tmp F σ H env fp v (.fr d)) : ∃ F', SR K G tmp F' σ H env fp ∧ Ext F H F' H ∧ Dat K F' H d v := by
  obtain ⟨a, rfl, o, h1, h2, h3, h4⟩ := r
  obtain ⟨u, hu, du⟩ := o.data
  exact ⟨_, S.share hu du h2 h3 h4, Ext.share, (o.mono Ext.share rfl).dat (.inr rfl)⟩
theorem SR.hold (S : SR K G tmp F σ H env fp) {v : V} {r : R} (h : RV K G tmp F σ H env fp v r) : ∃ F', SR K G tmp F' σ H env fp ∧ Ext F H F' H ∧ RV K G tmp F' σ H env fp v r.hold := by
  cases r with
  | sh d => exact ⟨F, S, Ext.refl, h⟩
  | fr d => exact S.shareFr h
  | br i => exact ⟨F, S, Ext.refl, h⟩
theorem RV.mono {v : V} {r : R} (h : RV K G tmp F σ H env fp v r.hold) (e : Ext F H F' H') : RV K G tmp F' σ H' env' fp' v r.hold := by
  cases r with
  | sh d => exact Dat.mono e h
  | fr d => exact Dat.mono e h
  | br i => exact h
theorem RVs.mono (e : Ext F H F' H') : ∀ {vs : List V} {rs : List R}, RVs K G tmp F σ H env fp vs rs → RVs K G tmp F' σ H' env' fp' vs rs
  | _, _, .nil => .nil
  | _, _, .sh h t => .sh (h.mono e) (RVs.mono e t)
  | _, _, .br h t => .br h (RVs.mono e t)
theorem RVs.cons {v : V} {r : R} {vs : List V} {rs : List R} (h : RV K G tmp F σ H env fp v r.hold) (t : RVs K G tmp F σ H env fp vs rs) : RVs K G tmp F σ H env fp (v :: vs) (r.hold :: rs) := by
  cases r with
  | sh d => exact .sh h t
  | fr d => exact .sh h t
  | br i => exact .br h t
/-- what a slot holds becomes shared -/
theorem SR.freeze (S : SR K G tmp F σ H env fp) {i : Nat} {d : D} (hi : env[i]? = some (.ow d)) {v : V} (hv : σ[i]? = some (some v)) :
    ∃ F' fp', SR K G tmp F' σ H (env.set i (.im d)) fp' ∧ Ext F H F' H ∧ Dat K F' H d v := by
  obtain ⟨o, h1, a, h2, rfl, ow⟩ := S.sl i _ hi
  rw [hv] at h1
  cases h1
  have ha : a ∈ fp i := by rw [h2]; simp
  obtain ⟨u, hu, du⟩ := ow.data
  have h0 := S.loc i d hi a ha
  refine ⟨fun b => F b ∨ b = a, fun j => if j = i then [] else fp j, ?_, Ext.share, (ow.mono Ext.share rfl).dat (.inr rfl)⟩
  have hlt : i < env.length := (List.getElem?_eq_some_iff.mp hi).1
  have sub : ∀ j b, b ∈ (if j = i then [] else fp j) → j ≠ i ∧ b ∈ fp j := fun j b h => by
    by_cases e : j = i
    · rw [if_pos e] at h; cases h
    · rw [if_neg e] at h; exact ⟨e, h⟩
  refine S.gen (by simp [S.len]) (by simp) (fun _ => False) (fun _ w => w.elim) Ch.refl (fun _ f => .inl f) (fun j s h => ?_) (fun j k b h1 h2 => S.dj j k b (sub j b h1).2 (sub k b h2).2) (fun j b h f => ?_)
    (fun j b h => .inl (sub j b h).2) (fun j d' h => ?_) (fun j b h => S.own j b (sub j b h).2) (fun q hq => ⟨fun f => ?_, fun j h => (S.tm q hq).2.2.2 j (sub j _ h).2⟩) (fun b f => ?_) (fun b f => ?_)
  · by_cases e : j = i
    · subst e
      rw [List.getElem?_set_self hlt] at h
      cases h
      refine .inr ⟨some (.ref a), hv, ?_, fun z => by cases z⟩
      rw [if_pos rfl]
      exact ⟨rfl, _, rfl, (ow.mono Ext.share rfl).dat (.inr rfl)⟩
    · rw [List.getElem?_set_ne (Ne.symm e)] at h
      exact .inl ⟨h, rfl, if_neg e, fun _ _ => rfl⟩
  · obtain ⟨e, hb⟩ := sub j b h
    rcases f with f | rfl
    · exact S.nf j b hb f
    · exact e (S.dj j i b hb ha)
  · by_cases e : j = i
    · subst e
      rw [List.getElem?_set_self hlt] at h
      cases h
    · rw [List.getElem?_set_ne (Ne.symm e)] at h
      exact .inl ⟨h, if_neg e⟩
  · rcases f with f | f
    · exact (S.tm q hq).2.1 f
    · exact (S.tm q hq).2.2.2 i (f ▸ ha)
  · rcases f with f | rfl
    · exact S.dom b f
    · exact ⟨u, hu, du⟩
  · rcases f with f | rfl
    · exact .inl f
    · exact .inr (.inr h0)

/-- a slot is stored, or what it alone holds is changed -/
theorem SR.put (S : SR K G tmp F σ H env fp) {i : Nat} (hi : i < env.length) {s' : Sl} {o : Option V} {l : List Addr} (ch : Ch F (fun a => a ∈ fp i) H H') (hs : SlR K F H' s' o l)
    (hl : ∀ a ∈ l, a ∈ fp i ∨ (¬ F a ∧ (∀ j, a ∉ fp j) ∧ G.H0 a = none ∧ ∀ q ∈ tmp, q.1 ≠ a)) (hloc : ∀ d, s' = .ow d → (∃ d', env[i]? = some (.ow d')) ∨ ∀ a ∈ l, G.H0 a = none) (hpar : s'.ps = true → i < G.S0.length → some o = G.S0[i]?)
    (far : ∀ j a, j ≠ i → a ∈ fp j → H' a = H a) : SR K G tmp F (σ.set i o) H' (env.set i s') (fun j => if j = i then l else fp j) := by
  have sub : ∀ j b, b ∈ (if j = i then l else fp j) → (j = i ∧ b ∈ l) ∨ (j ≠ i ∧ b ∈ fp j) := fun j b h => by
    by_cases e : j = i
    · rw [if_pos e] at h; exact .inl ⟨e, h⟩
    · rw [if_neg e] at h; exact .inr ⟨e, h⟩
  have hσ : i < σ.length := by rw [S.len]; exact hi
  refine S.gen (by simp [S.len]) (by simp) (fun a => a ∈ fp i) (fun a h => ⟨i, h⟩) ch (fun _ f => f) (fun j s h => ?_) (fun j k b h1 h2 => ?_) (fun j b h f => ?_) (fun j b h => ?_) (fun j d h => ?_) (fun j b h => ?_)
    (fun qq hq => ⟨(S.tm qq hq).2.1, fun j h => ?_⟩) (fun b f => ?_) (fun b f => .inl f)
  · by_cases e : j = i
    · subst e
      rw [List.getElem?_set_self hi] at h
      cases h
      exact .inr ⟨o, List.getElem?_set_self hσ, by rw [if_pos rfl]; exact hs, fun p l => (List.getElem?_set_self hσ).trans (hpar p l)⟩
    · rw [List.getElem?_set_ne (Ne.symm e)] at h
      exact .inl ⟨h, List.getElem?_set_ne (Ne.symm e), if_neg e, fun a ha => far j a e ha⟩
  · rcases sub j b h1 with ⟨rfl, q1⟩ | ⟨n1, q1⟩ <;> rcases sub k b h2 with ⟨rfl, q2⟩ | ⟨n2, q2⟩
    · rfl
    · rcases hl b q1 with z | ⟨_, z, _⟩
      · exact S.dj _ _ b z q2
      · exact absurd q2 (z k)
    · rcases hl b q2 with z | ⟨_, z, _⟩
      · exact S.dj _ _ b q1 z
      · exact absurd q1 (z j)
    · exact S.dj j k b q1 q2
  · rcases sub j b h with ⟨rfl, q⟩ | ⟨n, q⟩
    · rcases hl b q with z | ⟨z, _⟩
      · exact S.nf _ b z f
      · exact z f
    · exact S.nf j b q f
  · rcases sub j b h with ⟨rfl, q⟩ | ⟨n, q⟩
    · rcases hl b q with z | ⟨_, _, z, _⟩
      · exact .inl z
      · exact .inr (.inr z)
    · exact .inl q
  · by_cases e : j = i
    · subst e
      rw [List.getElem?_set_self hi] at h
      cases h
      rcases hloc d rfl with ⟨d', z⟩ | z
      · refine .inr fun a ha => ?_
        rw [if_pos rfl] at ha
        rcases hl a ha with q | ⟨_, _, q, _⟩
        · exact S.loc _ d' z a q
        · exact q
      · exact .inr fun a ha => z a (by rw [if_pos rfl] at ha; exact ha)
    · rw [List.getElem?_set_ne (Ne.symm e)] at h
      exact .inl ⟨h, if_neg e⟩
  · rcases sub j b h with ⟨rfl, q⟩ | ⟨n, q⟩
    · exact hs.data b q
    · obtain ⟨u, hu, du⟩ := S.own j b q
      exact ⟨u, (far j b n q).trans hu, du⟩
  · rcases sub j _ h with ⟨rfl, q⟩ | ⟨n, q⟩
    · rcases hl _ q with z | ⟨_, _, _, z⟩
      · exact (S.tm qq hq).2.2.2 _ z
      · exact z _ hq rfl
    · exact (S.tm _ hq).2.2.2 j q
  · obtain ⟨u, hu, du⟩ := S.dom b f
    exact vw_data (ch.f b f).1 hu du
end
end DL
namespace DL
open PySem PySem.Spec PyProof.Rows L2

/-! ### readings over data -/
abbrev WE := EnvD → (R → EnvD → Prop) → Prop
abbrev WT := EnvD → (Bool → EnvD → Prop) → Prop
abbrev WA := EnvD → (List R → EnvD → Prop) → Prop
def lift (K : PySem.W.Frag) (G : Gh) (w : WE) : TE := fun σ H Q => ∃ tmp F env fp Qd, SR K G tmp F σ H env fp ∧ w env Qd ∧
  ∀ r env' v H' F' fp', Ext F H F' H' → SR K G tmp F' σ H' env' fp' → RV K G tmp F' σ H' env' fp' v r → Qd r env' → Q v H'
def liftT (K : PySem.W.Frag) (G : Gh) (w : WT) : TT := fun σ H Q => ∃ tmp F env fp Qd, SR K G tmp F σ H env fp ∧ w env Qd ∧
  ∀ b env' H' F' fp', Ext F H F' H' → SR K G tmp F' σ H' env' fp' → Qd b env' → Q b H'
def liftA (K : PySem.W.Frag) (G : Gh) (n : Nat) (w : WA) : TA := fun σ H Q => ∃ tmp F env fp Qd, SR K G tmp F σ H env fp ∧ w env Qd ∧
  ∀ rs env' vs H' F' fp', rs.length = n → Ext F H F' H' → SR K G tmp F' σ H' env' fp' → RVs K G tmp F' σ H' env' fp' vs rs → Qd rs env' → Q vs H'
abbrev DE (X : Cx) (G : Gh) (e : Expr) (w : WE) : Prop := PE X e (lift X.K G w)
abbrev DT (X : Cx) (G : Gh) (e : Expr) (w : WT) : Prop := PT X e (liftT X.K G w)
abbrev DA (X : Cx) (G : Gh) (es : List Expr) (n : Nat) (w : WA) : Prop := PA X es (liftA X.K G n w)
theorem PE.imp {X : Cx} {e : Expr} {t t' : TE} (h : PE X e t) (i : ∀ σ H Q, t' σ H Q → t σ H Q) : PE X e t' := ⟨fun pins s σ H Q I q => h.run pins s σ H Q I (i σ H Q q)⟩
theorem PT.imp {X : Cx} {e : Expr} {t t' : TT} (h : PT X e t) (i : ∀ σ H Q, t' σ H Q → t σ H Q) : PT X e t' := ⟨fun pins s σ H Q I q => h.run pins s σ H Q I (i σ H Q q)⟩
theorem PW.imp {X : Cx} {e : Expr} {t t' : TT} (h : PW X e t) (i : ∀ σ H Q, t' σ H Q → t σ H Q) : PW X e t' := ⟨fun wh pins s σ H Q I q => h.run wh pins s σ H Q I (i σ H Q q)⟩
theorem PA.imp {X : Cx} {es : List Expr} {t t' : TA} (h : PA X es t) (i : ∀ σ H Q, t' σ H Q → t σ H Q) : PA X es t' := ⟨fun pos pins s σ H Q I q => h.run pos pins s σ H Q I (i σ H Q q)⟩

section
variable {K : PySem.W.Frag} {G : Gh} {tmp : List (Addr × HO)} {F F' : Addr → Prop} {σ σ' : St} {H H' : Hp} {env env' : EnvD} {fp fp' : Nat → List Addr}
theorem Lk.of_pk (S : SR K G tmp F σ H env fp) {v : V} {r : R} {d : D} (h : RV K G tmp F σ H env fp v r.hold) (e : pk env r = some d) : Lk K F H d v := by
  cases r with
  | sh d' => cases e; exact .inl h
  | fr d' => cases e; exact .inl h
  | br i =>
    have e : (match env[i]? with | some (.ow d) => some d | some (.pm d) => some d | _ => none) = some d := e
    split at e
    · rename_i d' hi
      cases e
      obtain ⟨o, h1, a, h2, rfl, ow⟩ := S.sl i _ hi
      have h : σ[i]? = some (some v) := h
      rw [h] at h1; cases h1
      exact .inr ⟨a, rfl, ow⟩
    · rename_i d' hi
      cases e
      obtain ⟨o, h1, a, h2, rfl, ow⟩ := S.sl i _ hi
      have h : σ[i]? = some (some v) := h
      rw [h] at h1; cases h1
      exact .inr ⟨a, rfl, ow⟩
    · cases e
theorem Lks.of_pks (S : SR K G tmp F σ H env fp) : ∀ {vs : List V} {rs : List R} {ds : List D}, RVs K G tmp F σ H env fp vs rs → pks env rs = some ds → Lks K F H ds vs
  | _, _, ds, .nil, e => by cases e; exact .nil
  | _, _, ds, .sh (d := d) (rs := rs) h t, e => by
    have e : (match pk env (.sh d), pks env rs with | some d, some ds => some (d :: ds) | _, _ => none) = some ds := e
    split at e
    · rename_i d1 ds1 h1 h2; cases e; exact .cons (Lk.of_pk S (r := .sh d) h h1) (of_pks S t h2)
    · cases e
  | _, _, ds, .br (i := i) (rs := rs) h t, e => by
    have e : (match pk env (.br i), pks env rs with | some d, some ds => some (d :: ds) | _, _ => none) = some ds := e
    split at e
    · rename_i d1 ds1 h1 h2; cases e; exact .cons (Lk.of_pk S (r := .br i) h h1) (of_pks S t h2)
    · cases e
theorem Lk.int {i : Int} {v : V} (h : Lk K F H (.int i) v) : v = .int i := by
  rcases h with h | ⟨a, _, h⟩
  · cases h; rfl
  · exact h.elim
theorem Lk.bl {b : Bool} {v : V} (h : Lk K F H (.bl b) v) : v = .bl b := by
  rcases h with h | ⟨a, _, h⟩
  · cases h; rfl
  · exact h.elim
theorem Lk.str {x : Str} {v : V} (h : Lk K F H (.str x) v) : v = .str x := by
  rcases h with h | ⟨a, _, h⟩
  · cases h; rfl
  · exact h.elim
theorem Lk.non {v : V} (h : Lk K F H .non v) : v = .non := by
  rcases h with h | ⟨a, _, h⟩
  · cases h; rfl
  · exact h.elim
theorem Lk.lst {ds : List D} {v : V} (h : Lk K F H (.lst ds) v) : ∃ a vs, v = .ref a ∧ H a = some (.lst vs) ∧ Dats K F H ds vs := by
  rcases h with h | ⟨a, rfl, vs, h, r⟩
  · cases h with | lst f h r => exact ⟨_, _, rfl, h, r⟩
  · exact ⟨a, vs, rfl, h, r⟩
theorem Lk.tup {ds : List D} {v : V} (h : Lk K F H (.tup ds) v) : ∃ a vs, v = .ref a ∧ SqT K H a vs ∧ Dats K F H ds vs := by
  rcases h with h | ⟨a, rfl, h⟩
  · cases h with
    | tup f h r => exact ⟨_, _, rfl, .of h, r⟩
    | tupK hk hc hd hz rv r => exact ⟨_, _, rfl, .inr ⟨_, _, _, hk, hc, hd, hz, rv⟩, r⟩
  · exact h.elim
theorem Lk.dct {kvs : List (Key × D)} {v : V} (h : Lk K F H (.dct kvs) v) : ∃ a ks, v = .ref a ∧ Rd H a (.dK ks) ∧ DatK K F H kvs ks := by
  rcases h with h | ⟨a, rfl, ks, h, r⟩
  · cases h with | dct f h r => exact ⟨_, _, rfl, vw_rd h, r⟩
  · exact ⟨a, ks, rfl, .inl h, r⟩
theorem Lk.ins {c : Str} {fs : List (Str × D)} {v : V} (h : Lk K F H (.ins c fs) v) : ∃ a dx gs, v = .ref a ∧ H a = some (.ins (He.ga K c) dx gs) ∧ DatF K F H fs gs := by
  rcases h with h | ⟨a, rfl, dx, gs, h, r⟩
  · cases h with | ins f h r => exact ⟨_, _, _, rfl, h, r⟩
  · exact ⟨a, dx, gs, rfl, h, r⟩
/-- a new data object, shared at once -/
theorem SR.newSh (S : SR K G tmp F σ H env fp) {p : Addr} (hp : H p = none) {o : HO} (hd : dataO o = true) :
    SR K G tmp (fun a => F a ∨ a = p) σ (upd H p o) env fp ∧ Ext F H (fun a => F a ∨ a = p) (upd H p o) :=
  ⟨(S.alloc hp).share upd_same hd (S.newFp hp) (S.newG hp) (S.newT hp), (Ext.upd (S.newF hp)).trans Ext.share⟩
/-- a new object, nobody's -/
theorem SR.newFr (S : SR K G tmp F σ H env fp) {p : Addr} (hp : H p = none) {o : HO} {d : D} (ow : Own K F (upd H p o) d p) :
    SR K G tmp F σ (upd H p o) env fp ∧ Ext F H F (upd H p o) ∧ RV K G tmp F σ (upd H p o) env fp (.ref p) (.fr d) :=
  ⟨S.alloc hp, Ext.upd (S.newF hp), p, rfl, ow, S.newF hp, S.newFp hp, S.newG hp, S.newT hp⟩
theorem lift.mono {w : WE} {Q Q' : VK} (h : lift K G w σ H Q) (i : ∀ v H', Q v H' → Q' v H') : lift K G w σ H Q' := by
  obtain ⟨tmp, F, env, fp, Qd, S, hw, k⟩ := h
  exact ⟨tmp, F, env, fp, Qd, S, hw, fun r env' v H' F' fp' e S' r' q => i _ _ (k r env' v H' F' fp' e S' r' q)⟩
/-- two in a row, the first one held -/
theorem lift2 {wa wb : WE} {P : R → R → EnvD → Prop} {Q : V → V → Hp → Prop} (S : SR K G tmp F σ H env fp) (h : wa env fun ra env1 => wb env1 fun rb env2 => P ra rb env2)
    (k : ∀ ra rb env2 x y H2 F2 fp2, Ext F H F2 H2 → SR K G tmp F2 σ H2 env2 fp2 → RV K G tmp F2 σ H2 env2 fp2 x ra.hold → RV K G tmp F2 σ H2 env2 fp2 y rb.hold → P ra rb env2 → Q x y H2) :
    lift K G wa σ H fun x H1 => lift K G wb σ H1 fun y H2 => Q x y H2 := by
  refine ⟨tmp, F, env, fp, _, S, h, fun ra env1 x H1 F1 fp1 e1 S1 r1 h1 => ?_⟩
  obtain ⟨F1', S1', e1', r1'⟩ := S1.hold r1
  refine ⟨tmp, F1', env1, fp1, _, S1', h1, fun rb env2 y H2 F2 fp2 e2 S2 r2 h2 => ?_⟩
  obtain ⟨F2', S2', e2', r2'⟩ := S2.hold r2
  exact k ra rb env2 x y H2 F2' fp2 (((e1.trans e1').trans e2).trans e2') S2' (r1'.mono (e2.trans e2')) r2' h2
theorem lift1 {wa : WE} {P : R → EnvD → Prop} {Q : V → Hp → Prop} (S : SR K G tmp F σ H env fp) (h : wa env P)
    (k : ∀ ra env1 x H1 F1 fp1, Ext F H F1 H1 → SR K G tmp F1 σ H1 env1 fp1 → RV K G tmp F1 σ H1 env1 fp1 x ra.hold → P ra env1 → Q x H1) : lift K G wa σ H Q := by
  refine ⟨tmp, F, env, fp, _, S, h, fun ra env1 x H1 F1 fp1 e1 S1 r1 h1 => ?_⟩
  obtain ⟨F1', S1', e1', r1'⟩ := S1.hold r1
  exact k ra env1 x H1 F1' fp1 (e1.trans e1') S1' r1' h1
end

/-! ### names, constants -/
def wVar (i : Nat) : WE := fun env Q => match env[i]? with
  | some (.im d) => Q (.sh d) env
  | some (.ow _) => Q (.br i) env
  | some (.pm _) => Q (.br i) env
  | some (.st _) => Q (.br i) env
  | _ => False
def wC (d : D) : WE := fun env Q => Q (.sh d) env
section
variable {X : Cx} {G : Gh} {a b c : Expr} {wa wb wc : WE} {pos : Pos}
theorem de_var (i : Nat) {x : Str} (hN : X.N[i]? = some x := by rfl) (hv : Vis X.env.scope x := by first | exact Or.inl rfl | exact Or.inr (Or.inl rfl) | exact Or.inr (Or.inr rfl)) (hd : (x == ("__debug__" : Str)) = false := by decide)
    (hcd : (x == ("__classdict__" : Str)) = false := by decide) : DE X G (.Name x pos) (wVar i) := by
  refine PE.imp (pe_var hN hv hd hcd) fun σ H Q h => ?_
  obtain ⟨tmp, F, env, fp, Qd, S, h, k⟩ := h
  unfold wVar at h
  split at h
  · rename_i d hi
    obtain ⟨o, h1, h2, v, rfl, q⟩ := S.sl i _ hi
    exact ⟨v, h1, k (.sh d) _ _ _ _ _ Ext.refl S q h⟩
  · rename_i d hi
    obtain ⟨o, h1, p, h2, rfl, q⟩ := S.sl i _ hi
    exact ⟨_, h1, k (.br i) _ _ _ _ _ Ext.refl S h1 h⟩
  · rename_i d hi
    obtain ⟨o, h1, p, h2, rfl, q⟩ := S.sl i _ hi
    exact ⟨_, h1, k (.br i) _ _ _ _ _ Ext.refl S h1 h⟩
  · rename_i d hi
    obtain ⟨o, h1, p, g, c, h2, rfl, q⟩ := S.sl i _ hi
    exact ⟨_, h1, k (.br i) _ _ _ _ _ Ext.refl S h1 h⟩
  · exact h.elim
theorem de_C {e : Expr} {v : V} {d : D} (h : PE X e (tC v)) (hd : ∀ F H, Dat X.K F H d v) : DE X G e (wC d) := by
  refine PE.imp h fun σ H Q h => ?_
  obtain ⟨tmp, F, env, fp, Qd, S, h, k⟩ := h
  exact k (.sh d) _ _ _ _ _ Ext.refl S (hd _ _) h
theorem de_int {i : Int} {j : Nat} : DE X G (.Constant (.int i) j pos) (wC (.int i)) := de_C pe_int fun _ _ => .int
theorem de_bl {b : Bool} {j : Nat} : DE X G (.Constant (.bool b) j pos) (wC (.bl b)) := de_C pe_bl fun _ _ => .bl
theorem de_non {j : Nat} : DE X G (.Constant .none j pos) (wC .non) := de_C pe_non fun _ _ => .non
theorem de_str {x : Str} {j : Nat} : DE X G (.Constant (.str x) j pos) (wC (.str x)) := de_C pe_str fun _ _ => .str
theorem de_gI {x : Str} {i : Int} {t : Tok} (hg : Gl X x) (hm : X.mg x = some (.int i t)) (hd : (x == ("__debug__" : Str)) = false := by decide) : DE X G (.Name x pos) (wC (.int i)) := de_C (v := .int i) (pe_glob hg hm ⟨t, rfl⟩ hd) fun _ _ => .int
theorem de_gS {x z : Str} {t : Tok} (hg : Gl X x) (hm : X.mg x = some (.str z t)) (hd : (x == ("__debug__" : Str)) = false := by decide) : DE X G (.Name x pos) (wC (.str z)) := de_C (v := .str z) (pe_glob hg hm ⟨t, rfl⟩ hd) fun _ _ => .str

/-! ### argument lists -/
def wNil : WA := fun env Q => Q [] env
def wCons (wa : WE) (wr : WA) : WA := fun env Q => wa env fun r env1 => wr env1 fun rs env2 => Q (r.hold :: rs) env2
theorem da_nil : DA X G [] 0 wNil := by
  refine PA.imp pa_nil fun σ H Q h => ?_
  obtain ⟨tmp, F, env, fp, Qd, S, h, k⟩ := h
  exact k _ _ _ _ _ _ rfl Ext.refl S .nil h
theorem da_cons {e : Expr} {es : List Expr} {n : Nat} {we : WE} {wr : WA} (ha : DE X G e we) (hr : DA X G es n wr) (hs : starEach (e :: es) X.env = (false, eval e X.env) :: starEach es X.env := by rfl) : DA X G (e :: es) (n + 1) (wCons we wr) := by
  refine PA.imp (pa_cons ha hr hs) fun σ H Q h => ?_
  obtain ⟨tmp, F, env, fp, Qd, S, h, k⟩ := h
  refine ⟨tmp, F, env, fp, _, S, h, fun r env1 v H1 F1 fp1 e1 S1 r1 h1 => ?_⟩
  obtain ⟨F1', S1', e1', r1'⟩ := S1.hold r1
  refine ⟨tmp, F1', env1, fp1, _, S1', h1, fun rs env2 vs H2 F2 fp2 hl e2 S2 r2 h2 => ?_⟩
  exact k _ _ _ _ _ _ (by simp [hl]) ((e1.trans e1').trans e2) S2 (RVs.cons (r1'.mono e2) r2) h2
/-- all shared -/
theorem SR.freezes {K : PySem.W.Frag} {tmp : List (Addr × HO)} {σ : St} {H : Hp} : ∀ {rs : List R} {vs : List V} {F : Addr → Prop} {env : EnvD} {fp : Nat → List Addr} {Q : List D → EnvD → Prop}, SR K G tmp F σ H env fp → RVs K G tmp F σ H env fp vs rs → fzs rs env Q →
    ∃ ds env' F' fp', SR K G tmp F' σ H env' fp' ∧ Ext F H F' H ∧ Dats K F' H ds vs ∧ ds.length = rs.length ∧ Q ds env'
  | _, _, _, _, _, _, S, .nil, h => ⟨_, _, _, _, S, Ext.refl, .nil, rfl, h⟩
  | _, _, _, _, _, _, S, .sh q t, h => by
    obtain ⟨ds, env', F', fp', S', e, r, hl, hq⟩ := SR.freezes S t h
    exact ⟨_, _, _, _, S', e, .cons (q.mono e) r, by simp [hl], hq⟩
  | _, _, _, env, _, _, S, .br (i := i) q t, h => by
    unfold fzs fz at h
    dsimp only at h
    split at h
    · rename_i d hi
      obtain ⟨F1, fp1, S1, e1, r1⟩ := S.freeze hi q
      obtain ⟨ds, env', F', fp', S', e, r, hl, hq⟩ := SR.freezes S1 (t.mono e1) h
      exact ⟨_, _, _, _, S', e1.trans e, .cons (r1.mono e) r, by simp [hl], hq⟩
    · exact h.elim

/-! ### displays -/
def wTup (wr : WA) : WE := fun env Q => wr env fun rs env1 => fzs rs env1 fun ds env2 => Q (.sh (.tup ds)) env2
def wLst (wr : WA) : WE := fun env Q => wr env fun rs env1 => fzs rs env1 fun ds env2 => Q (.fr (.lst ds)) env2
theorem de_tup {es : List Expr} {n : Nat} {wr : WA} {x1 : Nat} (h : DA X G es n wr) (hn : n ≤ 1000 := by decide) : DE X G (.Tuple es x1 pos) (wTup wr) := by
  refine PE.imp (pe_tup h) fun σ H Q h => ?_
  obtain ⟨tmp, F, env, fp, Qd, S, h, k⟩ := h
  refine ⟨tmp, F, env, fp, _, S, h, fun rs env1 vs H1 F1 fp1 hl e1 S1 r1 h1 => ?_⟩
  obtain ⟨ds, env2, F2, fp2, S2, e2, r2, hl2, h2⟩ := SR.freezes S1 r1 h1
  refine ⟨by rw [← r2.length, hl2, hl, sizeLine_eq]; omega, fun p hp => ?_⟩
  obtain ⟨S3, e3⟩ := S2.newSh hp (o := .tup vs) rfl
  exact k (.sh (.tup ds)) _ _ _ _ _ ((e1.trans e2).trans e3) S3 (Dat.tup (.inr rfl) upd_same (r2.mono e3)) h2
theorem de_lst {es : List Expr} {n : Nat} {wr : WA} (h : DA X G es n wr) (hn : n ≤ 1000 := by decide) : DE X G (.List es pos) (wLst wr) := by
  refine PE.imp (pe_lst h) fun σ H Q h => ?_
  obtain ⟨tmp, F, env, fp, Qd, S, h, k⟩ := h
  refine ⟨tmp, F, env, fp, _, S, h, fun rs env1 vs H1 F1 fp1 hl e1 S1 r1 h1 => ?_⟩
  obtain ⟨ds, env2, F2, fp2, S2, e2, r2, hl2, h2⟩ := SR.freezes S1 r1 h1
  refine ⟨by rw [← r2.length, hl2, hl, sizeLine_eq]; omega, fun p hp => ?_⟩
  obtain ⟨S3, e3, r3⟩ := S2.newFr hp (o := .lst vs) (d := .lst ds) ⟨vs, upd_same, r2.mono (Ext.upd (S2.newF hp))⟩
  exact k _ _ _ _ _ _ ((e1.trans e2).trans e3) S3 r3 h2
def wDict0 : WE := fun env Q => Q (.fr (.dct [])) env
theorem de_dict0 : DE X G (.Dict [] [] pos) wDict0 := by
  refine PE.imp pe_dnewK fun σ H Q h => ?_
  obtain ⟨tmp, F, env, fp, Qd, S, h, k⟩ := h
  intro p hp
  obtain ⟨S3, e3, r3⟩ := S.newFr hp (o := .dK []) (d := .dct []) ⟨[], upd_same, .nil⟩
  exact k _ _ _ _ _ _ e3 S3 r3 h

/-! ### operators -/
abbrev Op2 := D → D → (R → Prop) → Prop
def wB (f : Op2) (wa wb : WE) : WE := fun env Q => wa env fun ra env1 => wb env1 fun rb env2 => match pk env2 ra, pk env2 rb with
  | some da, some db => f da db fun r => Q r env2
  | _, _ => False
/-- an operation of two data -/
def OpD (K : PySem.W.Frag) (G : Gh) (r : R2) (f : Op2) : Prop := ∀ tmp F env fp σ H da db v u Qd (Q : VK), SR K G tmp F σ H env fp → Lk K F H da v → Lk K F H db u → f da db Qd →
  (∀ rr z H' F', Ext F H F' H' → SR K G tmp F' σ H' env fp → RV K G tmp F' σ H' env fp z rr → Qd rr → Q z H') → r v u H Q
theorem lift_B {K : PySem.W.Frag} {r : R2} {f : Op2} (hf : OpD K G r f) {σ : St} {H : Hp} {Q : VK} (h : lift K G (wB f wa wb) σ H Q) : tOp r (lift K G wa) (lift K G wb) σ H Q := by
  obtain ⟨tmp, F, env, fp, Qd, S, h, k⟩ := h
  refine lift2 S h fun ra rb env2 x y H2 F2 fp2 e2 S2 r1 r2 h2 => ?_
  split at h2
  · rename_i da db h3 h4
    exact hf _ _ _ _ _ _ _ _ _ _ _ _ S2 (Lk.of_pk S2 r1 h3) (Lk.of_pk S2 r2 h4) h2 fun rr z H' F' e' S' r' q => k _ _ _ _ _ _ (e2.trans e') S' r' q
  · exact h2.elim
theorem de_op {op : Operator} {r : R2} {f : Op2} (ho : OpR X (binaryOp op) r) (hf : OpD X.K G r f) (ha : DE X G a wa) (hb : DE X G b wb) : DE X G (.BinOp a op b pos) (wB f wa wb) := PE.imp (pe_op ho ha hb) fun _ _ _ h => lift_B hf h
theorem de_cmp {op : CmpOp} {r : R2} {f : Op2} (ho : OpR X (compareOp op) r) (hf : OpD X.K G r f) (ha : DE X G a wa) (hb : DE X G b wb) (hm : behindInMarks op b = false) : DE X G (.Compare a [op] [b] pos) (wB f wa wb) := PE.imp (pe_cmpR ho ha hb hm) fun _ _ _ h => lift_B hf h
theorem OpD.or {K : PySem.W.Frag} {r r' : R2} {f f' g : Op2} (h : OpD K G r f) (h' : OpD K G r' f') (i : ∀ a b Q, g a b Q → f a b Q ∨ f' a b Q) : OpD K G (fun x y H Q => r x y H Q ∨ r' x y H Q) g := by
  intro tmp F env fp σ H da db v u Qd Q S l1 l2 hg k
  rcases i _ _ _ hg with z | z
  · exact .inl (h _ _ _ _ _ _ _ _ _ _ _ _ S l1 l2 z k)
  · exact .inr (h' _ _ _ _ _ _ _ _ _ _ _ _ S l1 l2 z k)
end
end DL
namespace DL
open PySem PySem.Spec PyProof.Rows L2
section
variable {K : PySem.W.Frag} {G : Gh}
/-! ### numbers -/
def fI (C : Int → Int → Prop) (g : Int → Int → D) : Op2 := fun a b Q => match a, b with
  | .int i, .int j => C i j ∧ Q (.sh (g i j))
  | _, _ => False
/-- a plain datum is itself -/
def plainV : D → Option V
  | .non => some .non
  | .bl b => some (.bl b)
  | .int i => some (.int i)
  | .str x => some (.str x)
  | _ => none
theorem plainV_dat {F : Addr → Prop} {H : Hp} {d : D} {v : V} (h : plainV d = some v) : Dat K F H d v := by
  cases d with
  | non => cases h; exact .non
  | bl b => cases h; exact .bl
  | int i => cases h; exact .int
  | str x => cases h; exact .str
  | _ => cases h
theorem op_I {C : Int → Int → Prop} {g : Int → Int → D} {gv : Int → Int → V} (hg : ∀ i j, plainV (g i j) = some (gv i j)) : OpD K G (rI C gv) (fI C g) := by
  intro tmp F env fp σ H da db v u Qd Q S l1 l2 hf k
  unfold fI at hf
  split at hf
  · rename_i i j
    exact ⟨i, j, l1.int, l2.int, hf.1, k (.sh (g i j)) _ _ _ Ext.refl S (plainV_dat (hg i j)) hf.2⟩
  · exact hf.elim
theorem op_I0 {g : Int → Int → D} {gv : Int → Int → V} (hg : ∀ i j, plainV (g i j) = some (gv i j)) : OpD K G (rI0 gv) (fI (fun _ _ => True) g) := by
  intro tmp F env fp σ H da db v u Qd Q S l1 l2 hf k
  unfold fI at hf
  split at hf
  · rename_i i j
    exact ⟨i, j, l1.int, l2.int, k (.sh (g i j)) _ _ _ Ext.refl S (plainV_dat (hg i j)) hf.2⟩
  · exact hf.elim
def fS (C : Str → Str → Prop) (g : Str → Str → D) : Op2 := fun a b Q => match a, b with
  | .str i, .str j => C i j ∧ Q (.sh (g i j))
  | _, _ => False
def fCat : Op2 := fun a b Q => match a, b with
  | .lst xs, .lst ys => xs.length + ys.length ≤ sizeLine ∧ Q (.fr (.lst (xs ++ ys)))
  | _, _ => False
def fCatT : Op2 := fun a b Q => match a, b with
  | .tup xs, .tup ys => xs.length + ys.length ≤ sizeLine ∧ Q (.sh (.tup (xs ++ ys)))
  | _, _ => False
theorem op_Cat : OpD K G rCat fCat := by
  intro tmp F env fp σ H da db v u Qd Q S l1 l2 hf k
  unfold fCat at hf
  split at hf
  · rename_i xs ys
    obtain ⟨a, vs, rfl, h1, r1⟩ := l1.lst
    obtain ⟨b, ws, rfl, h2, r2⟩ := l2.lst
    refine ⟨a, b, vs, ws, rfl, rfl, h1, h2, by rw [← r1.length, ← r2.length]; exact hf.1, fun p hp => ?_⟩
    obtain ⟨S3, e3, r3⟩ := S.newFr hp (o := .lst (vs ++ ws)) (d := .lst (xs ++ ys)) ⟨_, upd_same, (r1.append r2).mono (Ext.upd (S.newF hp))⟩
    exact k _ _ _ _ e3 S3 r3 hf.2
  · exact hf.elim
theorem op_CatT : OpD K G (rCatA K) fCatT := by
  intro tmp F env fp σ H da db v u Qd Q S l1 l2 hf k
  unfold fCatT at hf
  split at hf
  · rename_i xs ys
    have l1' := l1; have l2' := l2
    obtain ⟨a, vs, rfl, h1, r1⟩ := l1.tup
    obtain ⟨b, ws, rfl, h2, r2⟩ := l2.tup
    have d1 : Dat K F H (.tup xs) (.ref a) := by rcases l1' with z | ⟨_, _, z⟩; exact z; exact z.elim
    have d2 : Dat K F H (.tup ys) (.ref b) := by rcases l2' with z | ⟨_, _, z⟩; exact z; exact z.elim
    refine ⟨a, b, vs, ws, rfl, rfl, h1, h2, by rw [← r1.length, ← r2.length]; exact hf.1, fun e => ?_, fun e1 e2 => ?_, fun e1 e2 p hp => ?_⟩
    · subst e
      have e0 : xs = [] := List.length_eq_zero_iff.mp r1.length
      subst e0
      exact k (.sh (.tup ys)) _ _ _ Ext.refl S d2 hf.2
    · subst e2
      have e0 : ys = [] := List.length_eq_zero_iff.mp r2.length
      subst e0
      exact k (.sh (.tup xs)) _ _ _ Ext.refl S d1 (by simpa using hf.2)
    · obtain ⟨S3, e3⟩ := S.newSh hp (o := .tup (vs ++ ws)) rfl
      exact k (.sh (.tup (xs ++ ys))) _ _ _ e3 S3 (Dat.tup (.inr rfl) upd_same ((r1.append r2).mono e3)) hf.2
  · exact hf.elim
theorem op_S {r : R2} {C : Str → Str → Prop} {g : Str → Str → D} {gv : Str → Str → V} (hr : r = fun x y H Q => ∃ i j, x = .str i ∧ y = .str j ∧ C i j ∧ Q (gv i j) H) (hg : ∀ i j, plainV (g i j) = some (gv i j)) : OpD K G r (fS C g) := by
  subst hr
  intro tmp F env fp σ H da db v u Qd Q S l1 l2 hf k
  unfold fS at hf
  split at hf
  · rename_i i j
    exact ⟨i, j, l1.str, l2.str, hf.1, k (.sh (g i j)) _ _ _ Ext.refl S (plainV_dat (hg i j)) hf.2⟩
  · exact hf.elim
theorem op_S0 {r : R2} {g : Str → Str → D} {gv : Str → Str → V} (hr : r = fun x y H Q => ∃ i j, x = .str i ∧ y = .str j ∧ Q (gv i j) H) (hg : ∀ i j, plainV (g i j) = some (gv i j)) : OpD K G r (fS (fun _ _ => True) g) := by
  subst hr
  intro tmp F env fp σ H da db v u Qd Q S l1 l2 hf k
  unfold fS at hf
  split at hf
  · rename_i i j
    exact ⟨i, j, l1.str, l2.str, k (.sh (g i j)) _ _ _ Ext.refl S (plainV_dat (hg i j)) hf.2⟩
  · exact hf.elim
/-- + -/
def fAdd : Op2 := fun a b Q => match a, b with
  | .int i, .int j => Q (.sh (.int (i + j)))
  | .str i, .str j => i.length + j.length ≤ sizeLine ∧ Q (.sh (.str (i ++ j)))
  | .lst xs, .lst ys => xs.length + ys.length ≤ sizeLine ∧ Q (.fr (.lst (xs ++ ys)))
  | .tup xs, .tup ys => xs.length + ys.length ≤ sizeLine ∧ Q (.sh (.tup (xs ++ ys)))
  | _, _ => False
def fSub : Op2 := fun a b Q => match a, b with
  | .int i, .int j => Q (.sh (.int (i - j)))
  | _, _ => False
def fRep : Op2 := fun a b Q => match a, b with
  | .lst xs, .int k => 0 ≤ k ∧ k < 2 ^ 24 ∧ xs.length * k.toNat ≤ sizeLine ∧ Q (.fr (.lst (List.replicate k.toNat xs).flatten))
  | _, _ => False
/-- * -/
def fMul : Op2 := fun a b Q => match a, b with
  | .int i, .int j => CMul i j ∧ Q (.sh (.int (i * j)))
  | .lst xs, .int k => 0 ≤ k ∧ k < 2 ^ 24 ∧ xs.length * k.toNat ≤ sizeLine ∧ Q (.fr (.lst (List.replicate k.toNat xs).flatten))
  | _, _ => False
def fMod : Op2 := fun a b Q => match a, b with
  | .int i, .int j => 0 < j ∧ Q (.sh (.int (i % j)))
  | _, _ => False
def fDiv : Op2 := fun a b Q => match a, b with
  | .int i, .int j => CDiv i j ∧ Q (.sh (.int (i / j)))
  | _, _ => False
def fPow : Op2 := fun a b Q => match a, b with
  | .int i, .int j => CPow i j ∧ Q (.sh (.int (i ^ j.toNat)))
  | _, _ => False
theorem reps_dat {F : Addr → Prop} {H : Hp} {xs : List D} {vs : List V} (r : Dats K F H xs vs) : ∀ n : Nat, Dats K F H (List.replicate n xs).flatten (List.replicate n vs).flatten
  | 0 => .nil
  | n + 1 => by simp only [List.replicate_succ, List.flatten_cons]; exact r.append (reps_dat r n)
theorem op_Rep : OpD K G rRep fRep := by
  intro tmp F env fp σ H da db v u Qd Q S l1 l2 hf k
  unfold fRep at hf
  split at hf
  · rename_i xs j
    obtain ⟨a, vs, rfl, h1, r1⟩ := l1.lst
    obtain ⟨q1, q2, q3, q4⟩ := hf
    refine ⟨a, j, vs, rfl, l2.int, h1, by omega, by omega, by rw [← r1.length]; exact q3, fun p hp => ?_⟩
    obtain ⟨S3, e3, r3⟩ := S.newFr hp (o := .lst (List.replicate j.toNat vs).flatten) (d := .lst (List.replicate j.toNat xs).flatten) ⟨_, upd_same, (reps_dat r1 _).mono (Ext.upd (S.newF hp))⟩
    exact k _ _ _ _ e3 S3 r3 q4
  · exact hf.elim
section
variable {X : Cx} {a b : Expr} {wa wb : WE} {pos : Pos}
theorem de_add (ha : DE X G a wa) (hb : DE X G b wb) : DE X G (.BinOp a .Add b pos) (wB fAdd wa wb) := by
  refine de_op (op_add.or (op_add_str.or (op_cat.or op_catA))) ((op_I0 (g := fun i j => .int (i + j)) fun _ _ => rfl).or ((op_S (C := fun i j => i.length + j.length ≤ sizeLine) (g := fun i j => .str (i ++ j)) (gv := fun i j => .str (i ++ j)) rfl fun _ _ => rfl).or (op_Cat.or op_CatT (g := fun a b Q => fCat a b Q ∨ fCatT a b Q) fun _ _ _ h => h)
    (g := fun a b Q => fS (fun i j => i.length + j.length ≤ sizeLine) (fun i j => .str (i ++ j)) a b Q ∨ fCat a b Q ∨ fCatT a b Q) fun _ _ _ h => h) fun a b Q h => ?_) ha hb
  unfold fAdd at h
  split at h
  · exact .inl ⟨trivial, h⟩
  · exact .inr (.inl h)
  · exact .inr (.inr (.inl h))
  · exact .inr (.inr (.inr h))
  · exact h.elim
theorem de_sub (ha : DE X G a wa) (hb : DE X G b wb) : DE X G (.BinOp a .Sub b pos) (wB fSub wa wb) := by
  refine de_op op_sub (f := fSub) (fun tmp F env fp σ H da db v u Qd Q S l1 l2 hf k => (op_I0 (g := fun i j => .int (i - j)) fun _ _ => rfl) tmp F env fp σ H da db v u Qd Q S l1 l2 ?_ k) ha hb
  unfold fSub at hf
  split at hf
  · exact ⟨trivial, hf⟩
  · exact hf.elim
theorem de_mul (ha : DE X G a wa) (hb : DE X G b wb) : DE X G (.BinOp a .Mult b pos) (wB fMul wa wb) := by
  refine de_op (op_mul.or op_rep) ((op_I (C := CMul) (g := fun i j => .int (i * j)) fun _ _ => rfl).or op_Rep fun a b Q h => ?_) ha hb
  unfold fMul at h
  split at h
  · exact .inl h
  · exact .inr h
  · exact h.elim
theorem de_mod (ha : DE X G a wa) (hb : DE X G b wb) : DE X G (.BinOp a .Mod b pos) (wB fMod wa wb) :=
  de_op op_mod (f := fMod) (op_I (C := fun _ j => 0 < j) (g := fun i j => .int (i % j)) fun _ _ => rfl) ha hb
theorem de_div (ha : DE X G a wa) (hb : DE X G b wb) : DE X G (.BinOp a .FloorDiv b pos) (wB fDiv wa wb) :=
  de_op op_fdiv (f := fDiv) (op_I (C := CDiv) (g := fun i j => .int (i / j)) fun _ _ => rfl) ha hb
theorem de_pow (ha : DE X G a wa) (hb : DE X G b wb) : DE X G (.BinOp a .Pow b pos) (wB fPow wa wb) :=
  de_op op_pow (f := fPow) (op_I (C := CPow) (g := fun i j => .int (i ^ j.toNat)) fun _ _ => rfl) ha hb
end
/-! ### order -/
def fCI (g : Int → Int → Bool) : Op2 := fun a b Q => match a, b with
  | .int i, .int j => Q (.sh (.bl (g i j)))
  | _, _ => False
def fLt : Op2 := fun a b Q => match a, b with
  | .int i, .int j => Q (.sh (.bl (decide (i < j))))
  | .str i, .str j => Q (.sh (.bl (decide (i.cps.toList < j.cps.toList))))
  | _, _ => False
def fGt := fCI fun i j => decide (j < i)
def fLe := fCI fun i j => decide (i ≤ j)
def fGe := fCI fun i j => decide (j ≤ i)
theorem op_CI {g : Int → Int → Bool} : OpD K G (rI0 fun i j => .bl (g i j)) (fCI g) := by
  intro tmp F env fp σ H da db v u Qd Q S l1 l2 hf k
  unfold fCI at hf
  split at hf
  · rename_i i j
    exact ⟨i, j, l1.int, l2.int, k (.sh (.bl (g i j))) _ _ _ Ext.refl S .bl hf⟩
  · exact hf.elim
def isNon : D → Bool
  | .non => true
  | _ => false
theorem isNon_lk {F : Addr → Prop} {H : Hp} {d : D} {v : V} (h : Lk K F H d v) : decide (v = .non) = isNon d := by
  rcases h with h | ⟨a, rfl, h⟩
  · cases h <;> rfl
  · cases d <;> first | rfl | exact h.elim
def fIs : Op2 := fun a b Q => match b with
  | .non => Q (.sh (.bl (isNon a)))
  | .bl y => (match a with
    | .bl x => Q (.sh (.bl (decide (x = y))))
    | _ => False)
  | _ => False
def fIsNot : Op2 := fun a b Q => match b with
  | .non => Q (.sh (.bl (!isNon a)))
  | .bl y => (match a with
    | .bl x => Q (.sh (.bl (!decide (x = y))))
    | _ => False)
  | _ => False
theorem op_Is : OpD K G (fun x y H Q => (y = .non ∧ Q (.bl (decide (x = .non))) H) ∨ rIsB x y H Q) fIs := by
  intro tmp F env fp σ H da db v u Qd Q S l1 l2 hf k
  unfold fIs at hf
  split at hf
  · refine .inl ⟨l2.non, ?_⟩
    rw [isNon_lk l1]
    exact k (.sh (.bl _)) _ _ _ Ext.refl S .bl hf
  · split at hf
    · exact .inr ⟨_, _, l1.bl, l2.bl, k (.sh (.bl _)) _ _ _ Ext.refl S .bl hf⟩
    · exact hf.elim
  · exact hf.elim
theorem op_IsNot : OpD K G (fun x y H Q => (y = .non ∧ Q (.bl (!decide (x = .non))) H) ∨ rNotB x y H Q) fIsNot := by
  intro tmp F env fp σ H da db v u Qd Q S l1 l2 hf k
  unfold fIsNot at hf
  split at hf
  · refine .inl ⟨l2.non, ?_⟩
    rw [isNon_lk l1]
    exact k (.sh (.bl _)) _ _ _ Ext.refl S .bl hf
  · split at hf
    · exact .inr ⟨_, _, l1.bl, l2.bl, k (.sh (.bl _)) _ _ _ Ext.refl S .bl hf⟩
    · exact hf.elim
  · exact hf.elim
/-- a comparison's operator, over data -/
def Cm (X : Cx) (G : Gh) (op : CmpOp) (f : Op2) : Prop := ∃ r, OpR X (compareOp op) r ∧ OpD X.K G r f
abbrev rC (g : Int → Int → Bool) : R2 := rI0 fun i j => .bl (g i j)
def wBl (we : WE) : WT := fun env Q => we env fun r env1 => match r with
  | .sh (.bl b) => Q b env1
  | _ => False
theorem lift_Bl {we : WE} {σ : St} {H : Hp} {Q : Bool → Hp → Prop} (h : liftT K G (wBl we) σ H Q) : lift K G we σ H fun x H1 => ∃ k, x = .bl k ∧ Q k H1 := by
  obtain ⟨tmp, F, env, fp, Qd, S, h, k⟩ := h
  refine ⟨tmp, F, env, fp, _, S, h, fun r env1 v H1 F1 fp1 e1 S1 r1 h1 => ?_⟩
  split at h1
  · rename_i b
    have r1 : Dat K F1 H1 (.bl b) v := r1
    cases r1
    exact ⟨b, rfl, k _ _ _ _ _ e1 S1 h1⟩
  · exact h1.elim
def truD : D → Option Bool
  | .non => some false
  | .bl b => some b
  | .int i => some (i != 0)
  | .lst xs => some !xs.isEmpty
  | .tup xs => some !xs.isEmpty
  | _ => none
def wTru (we : WE) : WT := fun env Q => we env fun r env1 => match (pk env1 r).bind truD with
  | some b => Q b env1
  | none => False
theorem Dats.isEmpty {F : Addr → Prop} {H : Hp} {ds : List D} {vs : List V} (r : Dats K F H ds vs) : vs.isEmpty = ds.isEmpty := by cases r <;> rfl
section
variable {X : Cx} {a b c : Expr} {wa wb wc : WE} {pos : Pos} {op op' : CmpOp}
theorem cm_lt : Cm X G .Lt fLt := by
  refine ⟨_, op_lt.or op_lt_str, (op_CI (g := fun i j => decide (i < j))).or (op_S0 (g := fun i j => .bl (decide (i.cps.toList < j.cps.toList))) (gv := fun i j => .bl (decide (i.cps.toList < j.cps.toList))) rfl fun _ _ => rfl) fun a b Q h => ?_⟩
  unfold fLt at h
  split at h
  · exact .inl h
  · exact .inr ⟨trivial, h⟩
  · exact h.elim
theorem cm_gt : Cm X G .Gt fGt := ⟨_, op_gt, op_CI⟩
theorem cm_le : Cm X G .LtE fLe := ⟨_, op_le, op_CI⟩
theorem cm_ge : Cm X G .GtE fGe := ⟨_, op_ge, op_CI⟩
theorem cm_is : Cm X G .Is fIs := ⟨_, op_isN.or op_isBl, op_Is⟩
theorem cm_isnot : Cm X G .IsNot fIsNot := ⟨_, op_notN.or op_notBl, op_IsNot⟩
theorem de_cm {f : Op2} (c : Cm X G op f) (ha : DE X G a wa) (hb : DE X G b wb) (hm : behindInMarks op b = false := by first | exact nomark _ | rfl) : DE X G (.Compare a [op] [b] pos) (wB f wa wb) := by
  obtain ⟨r, ho, hf⟩ := c
  exact de_cmp ho hf ha hb hm
theorem dt_cm {f : Op2} (c : Cm X G op f) (ha : DE X G a wa) (hb : DE X G b wb) (hm : behindInMarks op b = false := by first | exact nomark _ | rfl) : DT X G (.Compare a [op] [b] pos) (wBl (wB f wa wb)) := by
  obtain ⟨r, ho, hf⟩ := c
  exact PT.imp (pt_cmpR ho ha hb hm) fun σ H Q h => lift_B hf (lift_Bl h)
/-- a chain of two comparisons of numbers -/
def wChain (g g' : Int → Int → Bool) (wa wb wc : WE) : WE := fun env Q => wa env fun ra env1 => wb env1 fun rb env2 => match pk env2 ra, pk env2 rb with
  | some (.int i), some (.int j) => if g i j = true then wc env2 fun rc env3 => match pk env3 rc with
    | some (.int k) => Q (.sh (.bl (g' j k))) env3
    | _ => False
   else Q (.sh (.bl false)) env2
  | _, _ => False
theorem lift_chain {g g' : Int → Int → Bool} {σ : St} {H : Hp} {Q : VK} (h : lift K G (wChain g g' wa wb wc) σ H Q) : tChain (rC g) (rC g') (lift K G wa) (lift K G wb) (lift K G wc) σ H Q := by
  obtain ⟨tmp, F, env, fp, Qd, S, h, k⟩ := h
  refine lift2 S h fun ra rb env2 x y H2 F2 fp2 e2 S2 r1 r2 h2 => ?_
  split at h2
  · rename_i i j h3 h4
    refine ⟨i, j, (Lk.of_pk S2 r1 h3).int, (Lk.of_pk S2 r2 h4).int, _, rfl, ?_⟩
    split at h2
    · rename_i hg
      rw [hg, if_pos rfl]
      refine lift1 S2 h2 fun rc env3 z H3 F3 fp3 e3 S3 r3 h5 => ?_
      split at h5
      · rename_i l h6
        exact ⟨j, l, (Lk.of_pk S2 r2 h4).int, (Lk.of_pk S3 r3 h6).int, k (.sh (.bl _)) _ _ _ _ _ (e2.trans e3) S3 .bl h5⟩
      · exact h5.elim
    · rename_i hg
      have hg : g i j = false := by simpa using hg
      rw [hg, if_neg Bool.false_ne_true]
      exact k (.sh (.bl _)) _ _ _ _ _ e2 S2 .bl h2
  · exact h2.elim
theorem de_chain {g g' : Int → Int → Bool} (ho : OpR X (compareOp op) (rC g)) (ho' : OpR X (compareOp op') (rC g')) (ha : DE X G a wa) (hb : DE X G b wb) (hc : DE X G c wc)
    (hm : lastMarks [op, op'] [b, c] = false := by with_unfolding_all rfl) : DE X G (.Compare a [op, op'] [b, c] pos) (wChain g g' wa wb wc) := PE.imp (pe_chain ho ho' ha hb hc hm) fun σ H Q h => lift_chain h
theorem dt_chain {g g' : Int → Int → Bool} (ho : OpR X (compareOp op) (rC g)) (ho' : OpR X (compareOp op') (rC g')) (ha : DE X G a wa) (hb : DE X G b wb) (hc : DE X G c wc)
    (hm : lastMarks [op, op'] [b, c] = false := by with_unfolding_all rfl) : DT X G (.Compare a [op, op'] [b, c] pos) (wBl (wChain g g' wa wb wc)) := PT.imp (pt_chain ho ho' ha hb hc hm) fun σ H Q h => lift_chain (lift_Bl h)
/-! ### tests -/
theorem dt_val {e : Expr} {we : WE} (h : DE X G e we) (he : ∀ whole, isTrue e X.env whole = (do let v ← whole; standAt e.pos; holding [v] (truthy v)) := by intro _; rfl) : DT X G e (wBl we) :=
  PT.imp (pt_val h he) fun σ H Q h => lift_Bl h
theorem dt_tru {e : Expr} {we : WE} (h : DE X G e we) (he : ∀ whole, isTrue e X.env whole = (do let v ← whole; standAt e.pos; holding [v] (truthy v)) := by intro _; rfl) : DT X G e (wTru we) := by
  refine PT.imp (pt_truth h he) fun σ H Q h => ?_
  obtain ⟨tmp, F, env, fp, Qd, S, h, k⟩ := h
  refine lift1 S h fun r env1 v H1 F1 fp1 e1 S1 r1 h1 => ?_
  split at h1
  · rename_i b hb
    obtain ⟨d, h2, h3⟩ := Option.bind_eq_some_iff.mp hb
    have l := Lk.of_pk S1 r1 h2
    refine ⟨b, ?_, k _ _ _ _ _ e1 S1 h1⟩
    cases d with
    | non => rw [l.non]; cases h3; rfl
    | bl b => rw [l.bl]; cases h3; rfl
    | int i => rw [l.int]; cases h3; rfl
    | lst xs => obtain ⟨a, vs, rfl, h4, r4⟩ := l.lst; cases h3; exact .inl ⟨vs, .of h4, by rw [r4.isEmpty]⟩
    | tup xs => obtain ⟨a, vs, rfl, h4, r4⟩ := l.tup; cases h3; exact .inr (.inl ⟨vs, h4, by rw [r4.isEmpty]⟩)
    | _ => cases h3
  · exact h1.elim
def wNotT (wt : WT) : WT := fun env Q => wt env fun b env1 => Q (!b) env1
def wAndT (wa wb : WT) : WT := fun env Q => wa env fun b env1 => if b = true then wb env1 Q else Q false env1
def wOrT (wa wb : WT) : WT := fun env Q => wa env fun b env1 => if b = true then Q true env1 else wb env1 Q
abbrev DW (X : Cx) (G : Gh) (e : Expr) (w : WT) : Prop := PW X e (liftT X.K G w)
theorem liftT_seq {w1 : WT} {P : Bool → EnvD → Prop} {σ : St} {H : Hp} {Q : Bool → Hp → Prop} {tmp : List (Addr × HO)} {F : Addr → Prop} {env : EnvD} {fp : Nat → List Addr} (S : SR K G tmp F σ H env fp) (h : w1 env P)
    (k : ∀ b env' H' F' fp', Ext F H F' H' → SR K G tmp F' σ H' env' fp' → P b env' → Q b H') : liftT K G w1 σ H Q := ⟨tmp, F, env, fp, P, S, h, k⟩
variable {tA tB : WT} {rest : List Expr}
theorem dt_not (ha : DT X G a tA) : DT X G (.UnaryOp .Not a pos) (wNotT tA) := by
  refine PT.imp (pt_not ha) fun σ H Q h => ?_
  obtain ⟨tmp, F, env, fp, Qd, S, h, k⟩ := h
  exact liftT_seq S h fun b env1 H1 F1 fp1 e1 S1 h1 => k _ _ _ _ _ e1 S1 h1
theorem dw_and1 (ha : DT X G a tA) : DW X G (.BoolOp .And [a] pos) tA := pw_and1 ha
theorem dw_or1 (ha : DT X G a tA) : DW X G (.BoolOp .Or [a] pos) tA := pw_or1 ha
theorem dw_and (ha : DT X G a tA) (hb : DW X G (.BoolOp .And (b :: rest) pos) tB) : DW X G (.BoolOp .And (a :: b :: rest) pos) (wAndT tA tB) := by
  refine PW.imp (pw_and ha hb) fun σ H Q h => ?_
  obtain ⟨tmp, F, env, fp, Qd, S, h, k⟩ := h
  refine liftT_seq S h fun b env1 H1 F1 fp1 e1 S1 h1 => ?_
  cases b with
  | true => exact ⟨tmp, F1, env1, fp1, Qd, S1, h1, fun b env2 H2 F2 fp2 e2 S2 h2 => k _ _ _ _ _ (e1.trans e2) S2 h2⟩
  | false => exact k _ _ _ _ _ e1 S1 h1
theorem dw_or (ha : DT X G a tA) (hb : DW X G (.BoolOp .Or (b :: rest) pos) tB) : DW X G (.BoolOp .Or (a :: b :: rest) pos) (wOrT tA tB) := by
  refine PW.imp (pw_or ha hb) fun σ H Q h => ?_
  obtain ⟨tmp, F, env, fp, Qd, S, h, k⟩ := h
  refine liftT_seq S h fun b env1 H1 F1 fp1 e1 S1 h1 => ?_
  cases b with
  | false => exact ⟨tmp, F1, env1, fp1, Qd, S1, h1, fun b env2 H2 F2 fp2 e2 S2 h2 => k _ _ _ _ _ (e1.trans e2) S2 h2⟩
  | true => exact k _ _ _ _ _ e1 S1 h1
theorem dt_w (h : DW X G a tA) : DT X G a tA := PW.pt h
/-! ### and, or, not as values (truths) -/
def wAndV (wa wb : WE) : WE := fun env Q => wa env fun r env1 => match r with
  | .sh (.bl b) => if b = true then wb env1 Q else Q (.sh (.bl false)) env1
  | _ => False
def wOrV (wa wb : WE) : WE := fun env Q => wa env fun r env1 => match r with
  | .sh (.bl b) => if b = true then Q (.sh (.bl true)) env1 else wb env1 Q
  | _ => False
def wNotV (wa : WE) : WE := fun env Q => wa env fun r env1 => match r with
  | .sh (.bl b) => Q (.sh (.bl (!b))) env1
  | _ => False
theorem de_one {op : BoolOp} (h : DE X G a wa) : DE X G (.BoolOp op [a] pos) wa := pe_one h
theorem de_and (ha : DE X G a wa) (hb : DE X G (.BoolOp .And (b :: rest) pos) wb) : DE X G (.BoolOp .And (a :: b :: rest) pos) (wAndV wa wb) := by
  refine PE.imp (pe_and ha hb) fun σ H Q h => ?_
  obtain ⟨tmp, F, env, fp, Qd, S, h, k⟩ := h
  refine ⟨tmp, F, env, fp, _, S, h, fun r env1 v H1 F1 fp1 e1 S1 r1 h1 => ?_⟩
  split at h1
  · rename_i b
    have r1 : Dat X.K F1 H1 (.bl b) v := r1
    cases r1
    refine ⟨b, rfl, ?_⟩
    cases b with
    | true => exact ⟨tmp, F1, env1, fp1, Qd, S1, h1, fun r env2 v H2 F2 fp2 e2 S2 r2 h2 => k _ _ _ _ _ _ (e1.trans e2) S2 r2 h2⟩
    | false => exact k (.sh (.bl false)) _ _ _ _ _ e1 S1 .bl h1
  · exact h1.elim
theorem de_or (ha : DE X G a wa) (hb : DE X G (.BoolOp .Or (b :: rest) pos) wb) : DE X G (.BoolOp .Or (a :: b :: rest) pos) (wOrV wa wb) := by
  refine PE.imp (pe_or ha hb) fun σ H Q h => ?_
  obtain ⟨tmp, F, env, fp, Qd, S, h, k⟩ := h
  refine ⟨tmp, F, env, fp, _, S, h, fun r env1 v H1 F1 fp1 e1 S1 r1 h1 => ?_⟩
  split at h1
  · rename_i b
    have r1 : Dat X.K F1 H1 (.bl b) v := r1
    cases r1
    refine ⟨b, rfl, ?_⟩
    cases b with
    | false => exact ⟨tmp, F1, env1, fp1, Qd, S1, h1, fun r env2 v H2 F2 fp2 e2 S2 r2 h2 => k _ _ _ _ _ _ (e1.trans e2) S2 r2 h2⟩
    | true => exact k (.sh (.bl true)) _ _ _ _ _ e1 S1 .bl h1
  · exact h1.elim
theorem de_not (ha : DE X G a wa) : DE X G (.UnaryOp .Not a pos) (wNotV wa) := by
  refine PE.imp (pe_not ha) fun σ H Q h => ?_
  obtain ⟨tmp, F, env, fp, Qd, S, h, k⟩ := h
  refine ⟨tmp, F, env, fp, _, S, h, fun r env1 v H1 F1 fp1 e1 S1 r1 h1 => ?_⟩
  split at h1
  · rename_i b
    have r1 : Dat X.K F1 H1 (.bl b) v := r1
    cases r1
    exact ⟨b, rfl, k (.sh (.bl (!b))) _ _ _ _ _ e1 S1 .bl h1⟩
  · exact h1.elim
def wIfE (wt : WT) (wa wb : WE) : WE := fun env Q => wt env fun b env1 => if b = true then wa env1 Q else wb env1 Q
theorem de_ifExp {c : Expr} {wt : WT} (hc : DT X G c wt) (ha : DE X G a wa) (hb : DE X G b wb) : DE X G (.IfExp c a b pos) (wIfE wt wa wb) := by
  refine PE.imp (pe_ifExp hc ha hb) fun σ H Q h => ?_
  obtain ⟨tmp, F, env, fp, Qd, S, h, k⟩ := h
  refine liftT_seq S h fun b env1 H1 F1 fp1 e1 S1 h1 => ?_
  cases b with
  | true => exact ⟨tmp, F1, env1, fp1, Qd, S1, h1, fun r env2 v H2 F2 fp2 e2 S2 r2 h2 => k _ _ _ _ _ _ (e1.trans e2) S2 r2 h2⟩
  | false => exact ⟨tmp, F1, env1, fp1, Qd, S1, h1, fun r env2 v H2 F2 fp2 e2 S2 r2 h2 => k _ _ _ _ _ _ (e1.trans e2) S2 r2 h2⟩
end
end
end DL
namespace DL
open PySem PySem.Spec PyProof.Rows L2
/-! ### statements -/
structure DEnds where
  nx : EnvD → Prop
  rt : R → EnvD → Prop
  bk : EnvD → Prop := fun _ => False
  ct : EnvD → Prop := fun _ => False
abbrev WS := EnvD → DEnds → Prop
structure EndR (K : PySem.W.Frag) (G : Gh) (tmp : List (Addr × HO)) (F : Addr → Prop) (H : Hp) (Dd : DEnds) (D : Ends) : Prop where
  nx : ∀ env' σ' H' F' fp', Ext F H F' H' → SR K G tmp F' σ' H' env' fp' → Dd.nx env' → D.nx σ' H'
  rt : ∀ r env' σ' v H' F' fp', Ext F H F' H' → SR K G tmp F' σ' H' env' fp' → RV K G tmp F' σ' H' env' fp' v r → Dd.rt r env' → D.rt v H'
  bk : ∀ env' σ' H' F' fp', Ext F H F' H' → SR K G tmp F' σ' H' env' fp' → Dd.bk env' → D.bk σ' H'
  ct : ∀ env' σ' H' F' fp', Ext F H F' H' → SR K G tmp F' σ' H' env' fp' → Dd.ct env' → D.ct σ' H'
def liftS (K : PySem.W.Frag) (G : Gh) (w : WS) : TS := fun D σ H => ∃ tmp F env fp Dd, SR K G tmp F σ H env fp ∧ w env Dd ∧ EndR K G tmp F H Dd D
abbrev DS (X : Cx) (G : Gh) (st : Stmt) (w : WS) : Prop := PS X st (liftS X.K G w)
abbrev DSs (X : Cx) (G : Gh) (sts : List Stmt) (w : WS) : Prop := PSs X sts (liftS X.K G w)
theorem PS.imp {X : Cx} {st : Stmt} {t t' : TS} (h : PS X st t) (i : ∀ D σ H, t' D σ H → t D σ H) : PS X st t' := ⟨fun pins s σ H D I q => h.run pins s σ H D I (i D σ H q)⟩
theorem PSs.imp {X : Cx} {st : List Stmt} {t t' : TS} (h : PSs X st t) (i : ∀ D σ H, t' D σ H → t D σ H) : PSs X st t' := ⟨fun pins s σ H D I q => h.run pins s σ H D I (i D σ H q)⟩
section
variable {K : PySem.W.Frag} {G : Gh} {tmp : List (Addr × HO)} {F F' : Addr → Prop} {σ σ' : St} {H H' : Hp} {env env' : EnvD} {fp fp' : Nat → List Addr} {De : Ends} {Dd : DEnds}
theorem EndR.later (k : EndR K G tmp F H Dd De) (e : Ext F H F' H') : EndR K G tmp F' H' Dd De :=
  ⟨fun _ _ _ _ _ e' S q => k.nx _ _ _ _ _ (e.trans e') S q, fun _ _ _ _ _ _ _ e' S r q => k.rt _ _ _ _ _ _ _ (e.trans e') S r q, fun _ _ _ _ _ e' S q => k.bk _ _ _ _ _ (e.trans e') S q, fun _ _ _ _ _ e' S q => k.ct _ _ _ _ _ (e.trans e') S q⟩
/-- a slot gets what an expression gives -/
def setSl (i : Nat) (r : R) (env : EnvD) (Q : EnvD → Prop) : Prop := i < env.length ∧ match r with
  | .sh d => Q (env.set i (.im d))
  | .fr d => Q (env.set i (.ow d))
  | .br j => match env[j]? with
    | some (.ow d) => Q ((env.set j (.im d)).set i (.im d))
    | _ => False
theorem SR.setIm (S : SR K G tmp F σ H env fp) {i : Nat} (hi : i < env.length) {d : D} {v : V} (h : Dat K F H d v) : SR K G tmp F (σ.set i (some v)) H (env.set i (.im d)) (fun j => if j = i then [] else fp j) :=
  S.put hi (s' := .im d) (l := []) Ch.refl ⟨rfl, v, rfl, h⟩ (fun a h => nomatch h) (fun d' h => nomatch h) (fun h => nomatch h) fun _ _ _ _ => rfl
theorem SR.setSl (S : SR K G tmp F σ H env fp) {i : Nat} {r : R} {v : V} {Q : EnvD → Prop} (h : RV K G tmp F σ H env fp v r) (q : setSl i r env Q) :
    ∃ env' F' fp', SR K G tmp F' (σ.set i (some v)) H env' fp' ∧ Ext F H F' H ∧ Q env' := by
  obtain ⟨hi, q⟩ := q
  cases r with
  | sh d => exact ⟨_, F, _, S.setIm hi h, Ext.refl, q⟩
  | fr d =>
    obtain ⟨a, rfl, ow, h1, h2, h3, h4⟩ := h
    refine ⟨_, F, _, S.put hi (s' := .ow d) (o := some (.ref a)) (l := [a]) Ch.refl ⟨a, rfl, rfl, ow⟩ (fun b hb => ?_) (fun d' _ => .inr fun b hb => ?_) (fun h => nomatch h) fun _ _ _ _ => rfl, Ext.refl, q⟩
    · simp at hb; subst hb; exact .inr ⟨h1, h2, h3, h4⟩
    · simp at hb; subst hb; exact h3
  | br j =>
    dsimp only at q
    split at q
    · rename_i d hj
      obtain ⟨F1, fp1, S1, e1, r1⟩ := S.freeze hj h
      exact ⟨_, F1, _, S1.setIm (by simpa using hi) r1, e1, q⟩
    · exact q.elim
end
def sNext : WS := fun env D => D.nx env
def sSeq (w1 w2 : WS) : WS := fun env D => w1 env { D with nx := fun env1 => w2 env1 D }
def sSet (i : Nat) (we : WE) : WS := fun env D => we env fun r env1 => setSl i r env1 D.nx
def sDrop (we : WE) : WS := fun env D => we env fun _ env1 => D.nx env1
/-- what is returned: what the def alone holds is handed over -/
def retR (r : R) (env : EnvD) (Q : R → EnvD → Prop) : Prop := match r with
  | .br i => match env[i]? with
    | some (.ow d) => Q (.fr d) (env.set i .un)
    | _ => False
  | r => Q r env
def sRet (we : WE) : WS := fun env D => we env fun r env1 => retR r env1 D.rt
def sRetN : WS := fun env D => D.rt (.sh .non) env
def sIf (wt : WT) (w1 w2 : WS) : WS := fun env D => wt env fun b env1 => if b = true then w1 env1 D else w2 env1 D
def sBreak : WS := fun env D => D.bk env
def sCont : WS := fun env D => D.ct env
section
variable {X : Cx} {G : Gh} {st : Stmt} {rest : List Stmt} {w1 w2 : WS} {e : Expr} {we : WE} {pos : Pos}
theorem dss_nil : DSs X G [] sNext := PSs.imp pss_nil fun D σ H h => by
  obtain ⟨tmp, F, env, fp, Dd, S, h, k⟩ := h
  exact k.nx _ _ _ _ _ Ext.refl S h
theorem dss_cons (h1 : DS X G st w1) (h2 : DSs X G rest w2) : DSs X G (st :: rest) (sSeq w1 w2) := by
  refine PSs.imp (pss_cons h1 h2) fun D σ H h => ?_
  obtain ⟨tmp, F, env, fp, Dd, S, h, k⟩ := h
  exact ⟨tmp, F, env, fp, _, S, h, fun env1 σ1 H1 F1 fp1 e1 S1 q => ⟨tmp, F1, env1, fp1, Dd, S1, q, k.later e1⟩, k.rt, k.bk, k.ct⟩
theorem dss_one (h1 : DS X G st w1) : DSs X G [st] w1 := pss_one h1
theorem dss_nox (h : DSs X.nox G rest w1) : DSs X G rest w1 := PSs.nox h
theorem ds_pass : DS X G (.Pass pos) sNext := PS.imp ps_pass fun D σ H h => by
  obtain ⟨tmp, F, env, fp, Dd, S, h, k⟩ := h
  exact k.nx _ _ _ _ _ Ext.refl S h
theorem ds_break : DS X G (.Break pos) sBreak := PS.imp ps_break fun D σ H h => by
  obtain ⟨tmp, F, env, fp, Dd, S, h, k⟩ := h
  exact k.bk _ _ _ _ _ Ext.refl S h
theorem ds_cont : DS X G (.Continue pos) sCont := PS.imp ps_continue fun D σ H h => by
  obtain ⟨tmp, F, env, fp, Dd, S, h, k⟩ := h
  exact k.ct _ _ _ _ _ Ext.refl S h
theorem ds_set (i : Nat) {x : Str} {pos' : Pos} (hN : X.N.Nodup) (hi : X.N[i]? = some x) (hx : Loc X.env.scope x) (he : DE X G e we) (hs : swapsWith e (some (.Name x pos')) pos.line X.env = pure false := by rfl)
    (hf : X.fn x = true ∨ X.env.scope.names.lookup x = some .local := by first | exact .inl rfl | exact .inr rfl | assumption) : DS X G (.Assign [.Name x pos'] e pos) (sSet i we) := by
  refine PS.imp (ps_set hN hi hx he hs hf) fun D σ H h => ?_
  obtain ⟨tmp, F, env, fp, Dd, S, h, k⟩ := h
  refine ⟨tmp, F, env, fp, _, S, h, fun r env1 v H1 F1 fp1 e1 S1 r1 h1 => ?_⟩
  obtain ⟨env2, F2, fp2, S2, e2, h2⟩ := S1.setSl r1 h1
  exact k.nx _ _ _ _ _ (e1.trans e2) S2 h2
theorem ds_expr (he : DE X G e we) (hs : swapsWith e none pos.line X.env = pure false := by rfl) : DS X G (.Expr e pos) (sDrop we) := by
  refine PS.imp (ps_expr he hs) fun D σ H h => ?_
  obtain ⟨tmp, F, env, fp, Dd, S, h, k⟩ := h
  exact ⟨tmp, F, env, fp, _, S, h, fun r env1 v H1 F1 fp1 e1 S1 r1 h1 => k.nx _ _ _ _ _ e1 S1 h1⟩
theorem ds_doc {x : Str} {j : Nat} {pos' : Pos} : DS X G (.Expr (.Constant (.str x) j pos) pos') sNext := PS.imp ps_doc fun D σ H h => by
  obtain ⟨tmp, F, env, fp, Dd, S, h, k⟩ := h
  exact k.nx _ _ _ _ _ Ext.refl S h
/-- a slot forgets -/
theorem SR.forget {K : PySem.W.Frag} {tmp : List (Addr × HO)} {F : Addr → Prop} {σ : St} {H : Hp} {env : EnvD} {fp : Nat → List Addr} (S : SR K G tmp F σ H env fp) {i : Nat} (hi : i < env.length) : SR K G tmp F σ H (env.set i .un) (fun j => if j = i then [] else fp j) := by
  have h := S.put hi (s' := .un) (o := σ[i]'(by rw [S.len]; exact hi)) (l := []) Ch.refl rfl (fun a h => nomatch h) (fun d h => nomatch h) (fun h => nomatch h) fun _ _ _ _ => rfl
  rwa [List.set_getElem_self] at h
theorem SR.retR {K : PySem.W.Frag} {tmp : List (Addr × HO)} {F : Addr → Prop} {σ : St} {H : Hp} {env : EnvD} {fp : Nat → List Addr} (S : SR K G tmp F σ H env fp) {r : R} {v : V} {Q : R → EnvD → Prop} (h : RV K G tmp F σ H env fp v r) (q : retR r env Q) :
    ∃ r' env' fp', SR K G tmp F σ H env' fp' ∧ RV K G tmp F σ H env' fp' v r' ∧ Q r' env' := by
  cases r with
  | sh d => exact ⟨_, _, _, S, h, q⟩
  | fr d => exact ⟨_, _, _, S, h, q⟩
  | br i =>
    unfold DL.retR at q
    dsimp only at q
    split at q
    · rename_i d hi
      obtain ⟨o, h1, a, h2, rfl, ow⟩ := S.sl i _ hi
      have h : σ[i]? = some (some v) := h
      rw [h] at h1; cases h1
      have ha : a ∈ fp i := by rw [h2]; simp
      have hlt : i < env.length := (List.getElem?_eq_some_iff.mp hi).1
      refine ⟨.fr d, _, _, S.forget hlt, ?_, q⟩
      refine ⟨a, rfl, ow, S.nf i a ha, fun j hj => ?_, S.loc i d hi a ha, fun q hq e => (S.tm q hq).2.2.2 i (e ▸ ha)⟩
      have hj : a ∈ (if j = i then [] else fp j) := hj
      by_cases e : j = i
      · rw [if_pos e] at hj; cases hj
      · rw [if_neg e] at hj; exact e (S.dj j i a hj ha)
    · exact q.elim
theorem ds_ret (he : DE X G e we) : DS X G (.Return (some e) pos) (sRet we) := by
  refine PS.imp (ps_ret he) fun D σ H h => ?_
  obtain ⟨tmp, F, env, fp, Dd, S, h, k⟩ := h
  refine ⟨tmp, F, env, fp, _, S, h, fun r env1 v H1 F1 fp1 e1 S1 r1 h1 => ?_⟩
  obtain ⟨r', env2, fp2, S2, r2, h2⟩ := S1.retR r1 h1
  exact k.rt _ _ _ _ _ _ _ e1 S2 r2 h2
theorem ds_retN : DS X G (.Return none pos) sRetN := PS.imp ps_retN fun D σ H h => by
  obtain ⟨tmp, F, env, fp, Dd, S, h, k⟩ := h
  exact k.rt (.sh .non) _ _ _ _ _ _ Ext.refl S .non h
theorem ds_if {c : Expr} {a b : List Stmt} {wt : WT} (hc : DT X G c wt) (ha : DSs X G a w1) (hb : DSs X G b w2) : DS X G (.If c a b pos) (sIf wt w1 w2) := by
  refine PS.imp (ps_if hc ha hb) fun D σ H h => ?_
  obtain ⟨tmp, F, env, fp, Dd, S, h, k⟩ := h
  refine liftT_seq S h fun b env1 H1 F1 fp1 e1 S1 h1 => ?_
  cases b with
  | true => exact ⟨tmp, F1, env1, fp1, Dd, S1, h1, k.later e1⟩
  | false => exact ⟨tmp, F1, env1, fp1, Dd, S1, h1, k.later e1⟩
/-! ### what a def promises, over data -/
structure XD where
  c : Str
  f : Option (Str × D)
abbrev Sem := List Sl → (R → List Sl → Prop) → (XD → EnvD → Prop) → Prop
/-- an exception as a datum -/
def XR (K : PySem.W.Frag) (F : Addr → Prop) (H : Hp) (x : XD) (cv : Value) (od : Option Addr) : Prop := cv = .ref (He.ga K x.c) ∧ match x.f with
  | none => od = none
  | some (f, d) => ∃ dd v, od = some dd ∧ F dd ∧ H dd = some (.xd [(f, v)]) ∧ Dat K F H d v
def Link (K : PySem.W.Frag) (G : Gh) (E : XK) (Ed : XD → EnvD → Prop) : Prop := ∀ x cv od tmp F σ H env fp, SR K G tmp F σ H env fp → XR K F H x cv od → Ed x env → E cv od H
structure SpD (K : PySem.W.Frag) (sem : Sem) (vs : List V) (H : Hp) (Q : VK) (E : XK) (G : Gh) (F : Addr → Prop) (args : List Sl) (fp : Nat → List Addr) (Qd : R → List Sl → Prop) (Ed : XD → EnvD → Prop) : Prop where
  s : SR K G [] F (vs.map some) H args fp
  s0 : G.S0 = vs.map some
  sem : sem args Qd Ed
  ret : ∀ r v F' σ' H' env' fp', SR K G [] F' σ' H' env' fp' → RV K G [] F' σ' H' env' fp' v r → Qd r (env'.take args.length) → Q v H'
  link : Link K G E Ed
def spD (K : PySem.W.Frag) (n : Nat) (sem : Sem) : Sp := fun vs H Q E => vs.length = n ∧ ∃ G F args fp Qd Ed, SpD K sem vs H Q E G F args fp Qd Ed
def uns (n : Nat) : EnvD := List.replicate n .un
end
theorem SR.more {K : PySem.W.Frag} {G : Gh} {tmp : List (Addr × HO)} {F : Addr → Prop} {σ : St} {H : Hp} {env : EnvD} {fp : Nat → List Addr} (S : SR K G tmp F σ H env fp) (n : Nat) :
    SR K G tmp F (σ ++ List.replicate n none) H (env ++ uns n) (fun i => if i < env.length then fp i else []) := by
  have sub : ∀ i a, a ∈ (if i < env.length then fp i else []) → i < env.length ∧ a ∈ fp i := fun i a h => by
    by_cases e : i < env.length
    · rw [if_pos e] at h; exact ⟨e, h⟩
    · rw [if_neg e] at h; cases h
  have hu : ∀ i s, (env ++ uns n)[i]? = some s → env[i]? = some s ∨ (env.length ≤ i ∧ s = .un) := fun i s h => by
    by_cases e : i < env.length
    · rw [List.getElem?_append_left e] at h; exact .inl h
    · rw [List.getElem?_append_right (by omega)] at h
      unfold uns at h
      rw [List.getElem?_replicate] at h
      split at h
      · cases h; exact .inr ⟨by omega, rfl⟩
      · cases h
  refine ⟨by simp [S.len, uns], fun i s h => ?_, fun i j a h1 h2 => S.dj i j a (sub i a h1).2 (sub j a h2).2, fun i a h => S.nf i a (sub i a h).2, fun i a h => S.ne i a (sub i a h).2, fun i d h a ha => ?_,
    fun i a h => S.own i a (sub i a h).2, fun p hp => ⟨(S.tm p hp).1, (S.tm p hp).2.1, (S.tm p hp).2.2.1, fun i h => (S.tm p hp).2.2.2 i (sub i _ h).2⟩, S.dom, S.keepN, S.keepF, S.grow, S.tabs, S.m0, fun i s h p l => ?_, Nat.le_trans S.ls (by simp), S.td⟩
  · rcases hu i s h with h1 | ⟨h1, rfl⟩
    · obtain ⟨o, h2, h3⟩ := S.sl i s h1
      have hlt : i < env.length := (List.getElem?_eq_some_iff.mp h1).1
      exact ⟨o, by rw [List.getElem?_append_left (by rw [S.len]; exact hlt)]; exact h2, by rw [if_pos hlt]; exact h3⟩
    · have hlt : i < (env ++ uns n).length := (List.getElem?_eq_some_iff.mp h).1
      refine ⟨none, ?_, if_neg (by omega)⟩
      rw [List.getElem?_append_right (by rw [S.len]; exact h1), List.getElem?_replicate, if_pos]
      rw [S.len]
      simp [uns] at hlt
      omega
  · rcases hu i _ h with h1 | ⟨h1, e⟩
    · exact S.loc i d h1 a (sub i a ha).2
    · cases e
  · rcases hu i s h with h1 | ⟨h1, rfl⟩
    · have hlt : i < env.length := (List.getElem?_eq_some_iff.mp h1).1
      rw [List.getElem?_append_left (by rw [S.len]; exact hlt)]
      exact S.par i s h1 p l
    · cases p
/-- THE RULE for a def over data -/
theorem fn_D {P : Program} {w : World} {K : PySem.W.Frag} {mg : Str → Option Value} {base : Heap} {x qual : Str} {params : Arguments} {body : List Stmt} {scope : Scope} {dvs : List V} {kws : List (Str × V)} {f : Addr} {fd : FuncData} {N ps : List Str} {k n : Nat} {sem : Sem}
    (F : FunD K x qual params body scope dvs kws f fd) (S : FnScope N ps scope) (hn : ps.length = n) (m : Nat) (hm : N.length = n + m)
    (hbody : ∀ (cdv : Value) (A : Around) (outer : List Env) (s : Shared) (H : Hp) (E : XK) (G : Gh) (Ed : XD → EnvD → Prop), Room k (A.deeper (envOfC qual scope s.heap.objs.size f cdv)) → Link K G E Ed →
      ∃ wb, DSs (cxOf (L2.CX P w) P w K mg base N qual scope f cdv A outer s H E) G body wb ∧ ∀ args Qd, args.length = n → sem args Qd Ed → wb (args ++ uns m) ⟨fun env => Qd (.sh .non) (env.take n), fun r env => Qd r (env.take n), fun _ => False, fun _ => False⟩) :
    FnOk P w K mg base (L2.CX P w) (k + 1) f fd ps (spD K n sem) := by
  refine F.ok S (fun vs H Q E h => h.1.trans hn.symm) fun cdv A outer s H vs Q E hr h => ?_
  obtain ⟨hl, G, Fr, args, fp, Qd, Ed, h⟩ := h
  obtain ⟨wb, hd, hw⟩ := hbody cdv A outer s H E G Ed hr h.link
  have la : args.length = n := by have := h.s.len; simp at this; omega
  have e : L2.start N vs = vs.map some ++ List.replicate m none := by unfold L2.start; rw [show N.length - vs.length = m by omega]
  refine ⟨_, hd, [], Fr, args ++ uns m, _, _, e ▸ h.s.more m, hw args Qd la h.sem, ?_⟩
  · refine ⟨fun env' σ' H' F' fp' e S' q => ?_, fun r env' σ' v H' F' fp' e S' r' q => ?_, fun _ _ _ _ _ _ _ q => q.elim, fun _ _ _ _ _ _ _ q => q.elim⟩
    · exact h.ret (.sh .non) .non F' σ' H' env' fp' S' .non (by rw [la]; exact q)
    · exact h.ret r v F' σ' H' env' fp' S' r' (by rw [la]; exact q)
end DL
namespace DL
open PySem PySem.Spec PyProof.Rows L2
/-! ### calls: an argument is shared, or lent from a slot -/
inductive Ar where
  | im (d : D)
  | sl (i : Nat)
def fzm : List Bool → List R → EnvD → (List Ar → EnvD → Prop) → Prop
  | [], [], env, Q => Q [] env
  | true :: ms, .br i :: rs, env, Q => fzm ms rs env fun as env1 => Q (.sl i :: as) env1
  | false :: ms, r :: rs, env, Q => fz r env fun d env1 => fzm ms rs env1 fun as env2 => Q (.im d :: as) env2
  | _, _, _, _ => False
def arSl (env : EnvD) : Ar → Sl
  | .im d => .im d
  | .sl i => match env[i]? with
    | some (.ow d) => .pm d
    | some (.pm d) => .pm d
    | some (.st n) => .st n
    | _ => .un
def okA (env : EnvD) : Ar → Bool
  | .im _ => true
  | .sl i => match env[i]? with
    | some (.ow _) => true
    | some (.pm _) => true
    | some (.st _) => true
    | _ => false
def ixs : List Ar → List Nat
  | [] => []
  | .im _ :: as => ixs as
  | .sl i :: as => i :: ixs as
def back : Option Sl → Sl → Sl
  | some (.ow _), .pm d => .ow d
  | some (.pm _), .pm d => .pm d
  | some (.st _), .st n => .st n
  | _, _ => .un
def putBack : EnvD → List Ar → List Sl → EnvD
  | env, .sl i :: as, s :: ss => putBack (env.set i (back env[i]? s)) as ss
  | env, .im _ :: as, _ :: ss => putBack env as ss
  | env, _, _ => env
def posOf : List Ar → Nat → Option Nat
  | [], _ => none
  | .im _ :: as, i => (posOf as i).map (· + 1)
  | .sl j :: as, i => if j = i then some 0 else (posOf as i).map (· + 1)
theorem posOf_some : ∀ {as : List Ar} {i j : Nat}, posOf as i = some j → as[j]? = some (.sl i)
  | [], i, j, h => by cases h
  | .im _ :: as, i, j, h => by
    obtain ⟨k, h1, rfl⟩ := Option.map_eq_some_iff.mp (show (posOf as i).map (· + 1) = some j from h)
    simpa using posOf_some h1
  | .sl m :: as, i, j, h => by
    have h : (if m = i then some 0 else (posOf as i).map (· + 1)) = some j := h
    split at h
    · rename_i e; cases h; subst e; rfl
    · obtain ⟨k, h1, rfl⟩ := Option.map_eq_some_iff.mp h
      simpa using posOf_some h1
theorem posOf_none : ∀ {as : List Ar} {i : Nat}, posOf as i = none → i ∉ ixs as
  | [], i, h => by simp [ixs]
  | .im _ :: as, i, h => by
    have := posOf_none (Option.map_eq_none_iff.mp (show (posOf as i).map (· + 1) = none from h))
    simpa [ixs] using this
  | .sl m :: as, i, h => by
    have h : (if m = i then some 0 else (posOf as i).map (· + 1)) = none := h
    split at h
    · cases h
    · rename_i e
      have := posOf_none (Option.map_eq_none_iff.mp h)
      simp only [ixs, List.mem_cons, not_or]
      exact ⟨fun z => e z.symm, this⟩
theorem mem_ixs : ∀ {as : List Ar} {i j : Nat}, as[j]? = some (.sl i) → i ∈ ixs as
  | [], i, j, h => by simp at h
  | .im _ :: as, i, 0, h => by cases h
  | .im _ :: as, i, j + 1, h => mem_ixs (as := as) (by simpa using h)
  | .sl m :: as, i, 0, h => by cases h; simp [ixs]
  | .sl m :: as, i, j + 1, h => by simp only [ixs, List.mem_cons]; exact .inr (mem_ixs (as := as) (by simpa using h))
theorem ixs_inj : ∀ {as : List Ar} {i j k : Nat}, (ixs as).Nodup → as[j]? = some (.sl i) → as[k]? = some (.sl i) → j = k
  | [], i, j, k, _, h, _ => by simp at h
  | .im _ :: as, i, 0, _, _, h, _ => by cases h
  | .im _ :: as, i, j + 1, 0, _, _, h => by cases h
  | .im _ :: as, i, j + 1, k + 1, n, h1, h2 => congrArg (· + 1) (ixs_inj (as := as) n (by simpa using h1) (by simpa using h2))
  | .sl m :: as, i, 0, 0, _, _, _ => rfl
  | .sl m :: as, i, 0, k + 1, n, h1, h2 => by
    cases h1
    have := mem_ixs (as := as) (i := m) (j := k) (by simpa using h2)
    exact absurd this (List.nodup_cons.mp n).1
  | .sl m :: as, i, j + 1, 0, n, h1, h2 => by
    cases h2
    have := mem_ixs (as := as) (i := m) (j := j) (by simpa using h1)
    exact absurd this (List.nodup_cons.mp n).1
  | .sl m :: as, i, j + 1, k + 1, n, h1, h2 => congrArg (· + 1) (ixs_inj (as := as) (List.nodup_cons.mp n).2 (by simpa using h1) (by simpa using h2))
theorem putBack_length : ∀ {as : List Ar} {env : EnvD} {ss : List Sl}, (putBack env as ss).length = env.length
  | [], env, ss => by cases ss <;> rfl
  | .im _ :: as, env, [] => rfl
  | .sl _ :: as, env, [] => rfl
  | .im _ :: as, env, s :: ss => putBack_length (as := as)
  | .sl i :: as, env, s :: ss => by
    show (putBack _ as ss).length = _
    rw [putBack_length (as := as)]; simp
theorem putBack_out : ∀ {as : List Ar} {env : EnvD} {ss : List Sl} {i : Nat}, i ∉ ixs as → (putBack env as ss)[i]? = env[i]?
  | [], env, ss, i, _ => by cases ss <;> rfl
  | .im _ :: as, env, [], i, _ => rfl
  | .sl _ :: as, env, [], i, _ => rfl
  | .im _ :: as, env, s :: ss, i, h => putBack_out (as := as) h
  | .sl m :: as, env, s :: ss, i, h => by
    simp only [ixs, List.mem_cons, not_or] at h
    show (putBack _ as ss)[i]? = _
    rw [putBack_out (as := as) h.2, List.getElem?_set_ne (fun e => h.1 e.symm)]
theorem putBack_at : ∀ {as : List Ar} {env : EnvD} {ss : List Sl} {i j : Nat}, (ixs as).Nodup → as.length ≤ ss.length → as[j]? = some (.sl i) → i < env.length → (putBack env as ss)[i]? = some (back env[i]? (ss.getD j .un))
  | [], env, ss, i, j, _, _, h, _ => by simp at h
  | _ :: _, env, [], i, j, _, hl, _, _ => by simp at hl
  | .im _ :: as, env, s :: ss, i, 0, _, _, h, _ => by cases h
  | .im _ :: as, env, s :: ss, i, j + 1, n, hl, h, hi => by
    show (putBack env as ss)[i]? = _
    rw [putBack_at (as := as) n (by simpa using hl) (by simpa using h) hi]; simp
  | .sl m :: as, env, s :: ss, i, 0, n, hl, h, hi => by
    cases h
    show (putBack _ as ss)[m]? = _
    rw [putBack_out (as := as) (List.nodup_cons.mp n).1, List.getElem?_set_self hi]; simp
  | .sl m :: as, env, s :: ss, i, j + 1, n, hl, h, hi => by
    have hm : i ∈ ixs as := mem_ixs (as := as) (j := j) (by simpa using h)
    have ne : m ≠ i := fun e => (List.nodup_cons.mp n).1 (e ▸ hm)
    show (putBack _ as ss)[i]? = _
    rw [putBack_at (as := as) (List.nodup_cons.mp n).2 (by simpa using hl) (by simpa using h) (by simpa using hi), List.getElem?_set_ne ne]; simp
inductive AVs (K : PySem.W.Frag) (F : Addr → Prop) (H : Hp) (σ : St) : List Ar → List V → Prop
  | nil : AVs K F H σ [] []
  | im {d : D} {v : V} {as : List Ar} {vs : List V} (h : Dat K F H d v) (t : AVs K F H σ as vs) : AVs K F H σ (.im d :: as) (v :: vs)
  | sl {i : Nat} {v : V} {as : List Ar} {vs : List V} (h : σ[i]? = some (some v)) (t : AVs K F H σ as vs) : AVs K F H σ (.sl i :: as) (v :: vs)
section
variable {K : PySem.W.Frag} {G : Gh} {tmp : List (Addr × HO)} {F F' : Addr → Prop} {σ σ' : St} {H H' : Hp} {env env' : EnvD} {fp fp' : Nat → List Addr}
theorem AVs.mono (e : Ext F H F' H') : ∀ {as : List Ar} {vs : List V}, AVs K F H σ as vs → AVs K F' H' σ as vs
  | _, _, .nil => .nil
  | _, _, .im h t => .im (h.mono e) (t.mono e)
  | _, _, .sl h t => .sl h (t.mono e)
theorem AVs.length : ∀ {as : List Ar} {vs : List V}, AVs K F H σ as vs → vs.length = as.length
  | _, _, .nil => rfl
  | _, _, .im _ t => congrArg (· + 1) t.length
  | _, _, .sl _ t => congrArg (· + 1) t.length
theorem AVs.atSl : ∀ {as : List Ar} {vs : List V} {i j : Nat}, AVs K F H σ as vs → as[j]? = some (.sl i) → ∃ v, vs[j]? = some v ∧ σ[i]? = some (some v)
  | _, _, _, _, .nil, h => by simp at h
  | _, _, _, 0, .im _ _, h => by cases h
  | _, _, _, j + 1, .im _ t, h => by simpa using t.atSl (j := j) (by simpa using h)
  | _, _, _, 0, .sl q _, h => by cases h; exact ⟨_, rfl, q⟩
  | _, _, _, j + 1, .sl _ t, h => by simpa using t.atSl (j := j) (by simpa using h)
theorem AVs.atIm : ∀ {as : List Ar} {vs : List V} {d : D} {j : Nat}, AVs K F H σ as vs → as[j]? = some (.im d) → ∃ v, vs[j]? = some v ∧ Dat K F H d v
  | _, _, _, _, .nil, h => by simp at h
  | _, _, _, 0, .im q _, h => by cases h; exact ⟨_, rfl, q⟩
  | _, _, _, j + 1, .im _ t, h => by simpa using t.atIm (j := j) (by simpa using h)
  | _, _, _, 0, .sl _ _, h => by cases h
  | _, _, _, j + 1, .sl _ t, h => by simpa using t.atIm (j := j) (by simpa using h)
theorem AVs.app : ∀ {as : List Ar} {vs : List V} {ds : List D} {ws : List V}, AVs K F H σ as vs → Dats K F H ds ws → AVs K F H σ (as ++ ds.map .im) (vs ++ ws)
  | _, _, _, _, .im h t, r => .im h (t.app r)
  | _, _, _, _, .sl h t, r => .sl h (t.app r)
  | _, _, _, _, .nil, r => go r
where go : ∀ {ds : List D} {ws : List V}, Dats K F H ds ws → AVs K F H σ (ds.map .im) ws
  | _, _, .nil => .nil
  | _, _, .cons h t => .im h (go t)
theorem RVs.length : ∀ {vs : List V} {rs : List R}, RVs K G tmp F σ H env fp vs rs → vs.length = rs.length
  | _, _, .nil => rfl
  | _, _, .sh _ t => congrArg (· + 1) t.length
  | _, _, .br _ t => congrArg (· + 1) t.length
/-- the arguments are made ready -/
theorem SR.fzm : ∀ {ms : List Bool} {rs : List R} {vs : List V} {F : Addr → Prop} {env : EnvD} {fp : Nat → List Addr} {Q : List Ar → EnvD → Prop}, SR K G tmp F σ H env fp → RVs K G tmp F σ H env fp vs rs → fzm ms rs env Q →
    ∃ as env' F' fp', SR K G tmp F' σ H env' fp' ∧ Ext F H F' H ∧ AVs K F' H σ as vs ∧ Q as env'
  | [], _, _, _, _, _, _, S, .nil, h => ⟨_, _, _, _, S, Ext.refl, .nil, h⟩
  | [], _, _, _, _, _, _, S, .sh _ _, h => (show False from h).elim
  | [], _, _, _, _, _, _, S, .br _ _, h => (show False from h).elim
  | true :: ms, _, _, _, _, _, _, S, .nil, h => (show False from h).elim
  | false :: ms, _, _, _, _, _, _, S, .nil, h => (show False from h).elim
  | true :: ms, _, _, _, _, _, _, S, .sh _ _, h => (show False from h).elim
  | true :: ms, _, _, _, env, _, _, S, .br (i := i) q t, h => by
    obtain ⟨as, env', F', fp', S', e, r, hq⟩ := SR.fzm (ms := ms) S t h
    exact ⟨_, _, _, _, S', e, .sl q r, hq⟩
  | false :: ms, _, _, _, _, _, _, S, .sh q t, h => by
    obtain ⟨as, env', F', fp', S', e, r, hq⟩ := SR.fzm (ms := ms) S t h
    exact ⟨_, _, _, _, S', e, .im (q.mono e) r, hq⟩
  | false :: ms, _, _, _, env, _, _, S, .br (i := i) q t, h => by
    unfold DL.fzm fz at h
    dsimp only at h
    split at h
    · rename_i d hi
      obtain ⟨F1, fp1, S1, e1, r1⟩ := S.freeze hi q
      obtain ⟨as, env', F', fp', S', e, r, hq⟩ := SR.fzm (ms := ms) S1 (t.mono e1) h
      exact ⟨_, _, _, _, S', e1.trans e, .im (r1.mono e) r, hq⟩
    · exact h.elim
/-- the callee's frame of mind -/
def ghOf (T : List (Addr × Str)) (H : Hp) (F : Addr → Prop) (fp : Nat → List Addr) (as : List Ar) (vs : List V) : Gh := ⟨H, F, (ixs as).flatMap fp, T, vs.map some⟩
def fpA (fp : Nat → List Addr) (as : List Ar) (j : Nat) : List Addr := match as[j]? with
  | some (.sl i) => fp i
  | _ => []
theorem fpA_mem {as : List Ar} {j : Nat} {a : Addr} (h : a ∈ fpA fp as j) : ∃ i, as[j]? = some (.sl i) ∧ a ∈ fp i := by
  unfold fpA at h
  split at h
  · rename_i i e; exact ⟨i, e, h⟩
  · cases h
theorem SR.enter (S : SR K G tmp F σ H env fp) {as : List Ar} {vs : List V} (av : AVs K F H σ as vs) (hn : (ixs as).Nodup) (hk : as.all (okA env) = true) :
    SR K (ghOf G.T H F fp as vs) [] F (vs.map some) H (as.map (arSl env)) (fpA fp as) := by
  have sub : ∀ j a, a ∈ fpA fp as j → ∃ i, as[j]? = some (.sl i) ∧ a ∈ fp i := fun j a h => fpA_mem h
  refine ⟨by simp [av.length], fun j s h => ?_, fun j k a h1 h2 => ?_, fun j a h => ?_, fun j a h => .inl ?_, fun j d h => ?_, fun j a h => ?_, fun p hp => (nomatch hp), S.dom, fun a o h _ _ => h, fun a f => ⟨f, Kp.refl⟩, fun a f => .inl f, S.tabs, fun a h => ?_, fun j s h _ _ => rfl, (by simp [ghOf, av.length]), fun p hp => (nomatch hp)⟩
  · rw [List.getElem?_map] at h
    obtain ⟨ar, h1, rfl⟩ := Option.map_eq_some_iff.mp h
    cases ar with
    | im d =>
      obtain ⟨v, h2, h3⟩ := av.atIm h1
      refine ⟨some v, by rw [List.getElem?_map, h2]; rfl, ?_⟩
      exact ⟨by unfold fpA; rw [h1], v, rfl, h3⟩
    | sl i =>
      obtain ⟨v, h2, h3⟩ := av.atSl h1
      refine ⟨some v, by rw [List.getElem?_map, h2]; rfl, ?_⟩
      have ef : fpA fp as j = fp i := by unfold fpA; rw [h1]
      rw [ef]
      have ok := List.all_eq_true.mp hk _ (List.mem_of_getElem? h1)
      unfold okA at ok
      unfold arSl
      dsimp only at ok ⊢
      split at ok
      · rename_i d hi
        obtain ⟨o, h4, q⟩ := S.sl i _ hi
        rw [h3] at h4; cases h4
        exact q
      · rename_i d hi
        obtain ⟨o, h4, q⟩ := S.sl i _ hi
        rw [h3] at h4; cases h4
        exact q
      · rename_i n hi
        obtain ⟨o, h4, q⟩ := S.sl i _ hi
        rw [h3] at h4; cases h4
        exact q
      · cases ok
  · obtain ⟨i1, e1, m1⟩ := sub j a h1
    obtain ⟨i2, e2, m2⟩ := sub k a h2
    have := S.dj i1 i2 a m1 m2
    subst this
    exact ixs_inj hn e1 e2
  · obtain ⟨i, e, m⟩ := sub j a h
    exact S.nf i a m
  · obtain ⟨i, e, m⟩ := sub j a h
    exact List.mem_flatMap.mpr ⟨i, mem_ixs e, m⟩
  · rw [List.getElem?_map] at h
    obtain ⟨ar, h1, h2⟩ := Option.map_eq_some_iff.mp h
    cases ar with
    | im d => cases h2
    | sl i => unfold arSl at h2; dsimp only at h2; split at h2 <;> cases h2
  · obtain ⟨i, e, m⟩ := sub j a h
    exact S.own i a m
  · obtain ⟨i, _, m⟩ := List.mem_flatMap.mp h
    obtain ⟨o, ho, _⟩ := S.own i a m
    exact ⟨o, ho⟩
/-- where the slots' objects stand behind a call -/
def fpB (fp : Nat → List Addr) (as : List Ar) (env' : EnvD) (fp2 : Nat → List Addr) (i : Nat) : List Addr := match posOf as i with
  | some j => (match env'[i]? with
    | some .un => []
    | _ => fp2 j)
  | none => fp i
theorem ixs_pos : ∀ {as : List Ar} {i : Nat}, i ∈ ixs as → ∃ j, posOf as i = some j := fun {as i} h => by
  cases e : posOf as i with
  | some j => exact ⟨j, rfl⟩
  | none => exact absurd h (posOf_none e)
theorem back_cases (o : Option Sl) (s : Sl) : (∃ d d', o = some (.ow d) ∧ s = .pm d' ∧ back o s = .ow d') ∨ (∃ d d', o = some (.pm d) ∧ s = .pm d' ∧ back o s = .pm d') ∨ (∃ n n', o = some (.st n) ∧ s = .st n' ∧ back o s = .st n') ∨ back o s = .un := by
  unfold back
  split
  · exact .inl ⟨_, _, rfl, rfl, rfl⟩
  · exact .inr (.inl ⟨_, _, rfl, rfl, rfl⟩)
  · exact .inr (.inr (.inl ⟨_, _, rfl, rfl, rfl⟩))
  · exact .inr (.inr (.inr rfl))
theorem SR.leave (S : SR K G tmp F σ H env fp) {as : List Ar} {vs : List V} (av : AVs K F H σ as vs) (hn : (ixs as).Nodup) {fp2 : Nat → List Addr} {σ2 : St} {env2 : EnvD} {m : Nat} (hm : as.length ≤ m)
    {tmp2 : List (Addr × HO)} (S2 : SR K (ghOf G.T H F fp as vs) tmp2 F' σ2 H' env2 fp2) : Ext F H F' H' ∧ SR K G tmp F' σ H' (putBack env as (env2.take m)) (fpB fp as (putBack env as (env2.take m)) fp2) := by
  have gM : ∀ {i a}, i ∈ ixs as → a ∈ fp i → a ∈ (ixs as).flatMap fp := fun hi h => List.mem_flatMap.mpr ⟨_, hi, h⟩
  have ofM : ∀ {a}, a ∈ (ixs as).flatMap fp → ∃ i, i ∈ ixs as ∧ a ∈ fp i := fun h => let ⟨i, h1, h2⟩ := List.mem_flatMap.mp h; ⟨i, h1, h2⟩
  have ext : Ext F H F' H' := fun a f => S2.keepF a f
  have stay : ∀ a o, H a = some o → a ∉ (ixs as).flatMap fp → ¬ F a → H' a = some o := fun a o h1 h2 h3 => S2.keepN a o h1 h2 h3
  have grow : ∀ a, F' a → F a ∨ H a = none := fun a f => S2.grow a f
  refine ⟨ext, ?_⟩
  generalize hE : putBack env as (env2.take m) = E
  have lE : E.length = env.length := by rw [← hE]; exact putBack_length
  have offI : ∀ {i a}, i ∉ ixs as → a ∈ fp i → a ∉ (ixs as).flatMap fp := fun {i a} hi h z => by
    obtain ⟨k, hk, hk2⟩ := ofM z
    exact hi (S.dj i k a h hk2 ▸ hk)
  have same : ∀ {i a}, i ∉ ixs as → a ∈ fp i → H' a = H a := fun {i a} hi h => by
    obtain ⟨o, ho, _⟩ := S.own i a h
    rw [ho]
    exact stay a o ho (offI hi h) (S.nf i a h)
  -- a slot lent: what it is now
  have lent : ∀ {i j}, posOf as i = some j → i < env.length → E[i]? = some (back env[i]? ((env2.take m).getD j .un)) ∧ as[j]? = some (.sl i) := fun {i j} h hi => by
    have h1 := posOf_some h
    refine ⟨?_, h1⟩
    rw [← hE]
    refine putBack_at hn ?_ h1 hi
    have h2 := S2.ls
    have h3 : (ghOf G.T H F fp as vs).S0.length = as.length := by simp [ghOf, av.length]
    rw [List.length_take]
    omega
  have outE : ∀ {i}, i ∉ ixs as → E[i]? = env[i]? := fun h => by rw [← hE]; exact putBack_out h
  -- a lent slot: it holds what the callee left, or nothing
  have held : ∀ {i j}, posOf as i = some j → ∃ v s, σ[i]? = some (some v) ∧ E[i]? = some s ∧ ((s = .un ∧ fpB fp as E fp2 i = []) ∨ (s ≠ .un ∧ fpB fp as E fp2 i = fp2 j ∧ SlR K F' H' s (some v) (fp2 j) ∧
      (∀ d, s = .ow d → (∃ d', env[i]? = some (.ow d')) ∧ fp2 j = fp i) ∧ (s.ps = true → ∃ s0, env[i]? = some s0 ∧ s0.ps = true))) := fun {i j} h => by
    have h1 := posOf_some h
    obtain ⟨v, hv, hσ⟩ := av.atSl h1
    have hi : i < env.length := by rw [← S.len]; exact (List.getElem?_eq_some_iff.mp hσ).1
    obtain ⟨hEi, _⟩ := lent h hi
    have hjl : j < as.length := (List.getElem?_eq_some_iff.mp h1).1
    have hj2 : j < env2.length := by
      have h2 := S2.ls
      have h3 : (ghOf G.T H F fp as vs).S0.length = as.length := by simp [ghOf, av.length]
      omega
    have hg : (env2.take m).getD j .un = env2[j] := by
      rw [List.getD_eq_getElem?_getD, List.getElem?_take_of_lt (by omega), List.getElem?_eq_getElem hj2]; rfl
    rw [hg] at hEi
    have he2 : env2[j]? = some env2[j] := List.getElem?_eq_getElem hj2
    generalize env2[j] = s2 at hEi he2
    obtain ⟨o, ho, q⟩ := S2.sl j s2 he2
    have fpE : ∀ s, E[i]? = some s → s ≠ .un → fpB fp as E fp2 i = fp2 j := fun s hs hne => by
      unfold fpB
      rw [h]
      dsimp only
      rw [hs]
      cases s <;> first | rfl | exact absurd rfl hne
    have oV : s2.ps = true → o = some v := fun p => by
      have := S2.par j s2 he2 p (by simp [ghOf, av.length]; exact hjl)
      rw [ho] at this
      have e : (ghOf G.T H F fp as vs).S0[j]? = some (some v) := by simp [ghOf, hv]
      rw [e] at this
      exact Option.some.inj this
    refine ⟨v, _, hσ, hEi, ?_⟩
    rcases back_cases env[i]? s2 with ⟨d, d', e1, rfl, e3⟩ | ⟨d, d', e1, rfl, e3⟩ | ⟨n, n', e1, rfl, e3⟩ | e3
    · have e0 := oV rfl
      subst e0
      rw [e3] at hEi ⊢
      refine .inr ⟨fun z => (nomatch z), fpE _ hEi (fun z => (nomatch z)), q, fun d2 _ => ⟨⟨d, e1⟩, ?_⟩, fun z => (nomatch z)⟩
      obtain ⟨a, l1, l2, _⟩ := q
      obtain ⟨o', l3, a', l4, l5, _⟩ := S.sl i _ e1
      rw [hσ] at l3
      cases l3
      cases l2
      cases l5
      rw [l1, l4]
    · have e0 := oV rfl
      subst e0
      rw [e3] at hEi ⊢
      exact .inr ⟨fun z => (nomatch z), fpE _ hEi (fun z => (nomatch z)), q, fun d2 z => (nomatch z), fun _ => ⟨_, e1, rfl⟩⟩
    · have e0 := oV rfl
      subst e0
      rw [e3] at hEi ⊢
      exact .inr ⟨fun z => (nomatch z), fpE _ hEi (fun z => (nomatch z)), q, fun d2 z => (nomatch z), fun _ => ⟨_, e1, rfl⟩⟩
    · rw [e3] at hEi ⊢
      refine .inl ⟨rfl, ?_⟩
      unfold fpB
      rw [h]
      dsimp only
      rw [hEi]
  have fpOut : ∀ {i}, i ∉ ixs as → fpB fp as E fp2 i = fp i := fun {i} h => by
    unfold fpB
    cases e : posOf as i with
    | none => rfl
    | some j => exact absurd (mem_ixs (posOf_some e)) h
  -- where an address of the new footprints comes from
  have src : ∀ {i a}, a ∈ fpB fp as E fp2 i → (i ∉ ixs as ∧ a ∈ fp i) ∨ ∃ j, posOf as i = some j ∧ a ∈ fp2 j := fun {i a} h => by
    by_cases hi : i ∈ ixs as
    · obtain ⟨j, hj⟩ := ixs_pos hi
      obtain ⟨v, s, _, _, h1 | h1⟩ := held hj
      · rw [h1.2] at h; cases h
      · rw [h1.2.1] at h; exact .inr ⟨j, hj, h⟩
    · rw [fpOut hi] at h; exact .inl ⟨hi, h⟩
  have far : ∀ {i j a}, i ∉ ixs as → a ∈ fp i → a ∈ fp2 j → False := fun {i j a} hi h1 h2 => by
    obtain ⟨o, ho, _⟩ := S.own i a h1
    rcases S2.ne j a h2 with z | z
    · exact offI hi h1 z
    · have z : H a = none := z
      rw [ho] at z; cases z
  refine ⟨by rw [S.len, lE], fun i s h => ?_, fun i k a h1 h2 => ?_, fun i a h => ?_, fun i a h => ?_, fun i d h a ha => ?_, fun i a h => ?_, fun p hp => ?_, S2.dom, fun a o h1 h2 h3 => ?_, fun a f => ?_, fun a f => ?_, S2.tabs, fun a h => ?_, fun i s h p l => ?_, (by rw [lE]; exact S.ls), S.td⟩
  · by_cases hi : i ∈ ixs as
    · obtain ⟨j, hj⟩ := ixs_pos hi
      obtain ⟨v, s', h1, h2, h3 | h3⟩ := held hj
      · rw [h] at h2; cases h2
        rw [h3.1, h3.2]
        exact ⟨_, h1, rfl⟩
      · rw [h] at h2; cases h2
        rw [h3.2.1]
        exact ⟨_, h1, h3.2.2.1⟩
    · rw [outE hi] at h
      obtain ⟨o, h1, h2⟩ := S.sl i s h
      refine ⟨o, h1, ?_⟩
      rw [fpOut hi]
      exact h2.same ext fun a ha => same hi ha
  · rcases src h1 with ⟨a1, b1⟩ | ⟨j1, a1, b1⟩ <;> rcases src h2 with ⟨a2, b2⟩ | ⟨j2, a2, b2⟩
    · exact S.dj i k a b1 b2
    · exact (far a1 b1 b2).elim
    · exact (far a2 b2 b1).elim
    · have e := S2.dj j1 j2 a b1 b2
      subst e
      have e1 := posOf_some a1
      have e2 := posOf_some a2
      rw [e1] at e2
      cases e2
      rfl
  · rcases src h with ⟨a1, b1⟩ | ⟨j1, a1, b1⟩
    · intro f
      obtain ⟨o, ho, _⟩ := S.own i a b1
      rcases grow a f with z | z
      · exact S.nf i a b1 z
      · rw [ho] at z; cases z
    · exact S2.nf j1 a b1
  · rcases src h with ⟨a1, b1⟩ | ⟨j1, a1, b1⟩
    · exact S.ne i a b1
    · rcases S2.ne j1 a b1 with z | z
      · obtain ⟨k, hk, hk2⟩ := ofM z
        exact S.ne k a hk2
      · exact .inr (S.newG z)
  · by_cases hi : i ∈ ixs as
    · obtain ⟨j, hj⟩ := ixs_pos hi
      obtain ⟨v, s', h1, h2, h3 | h3⟩ := held hj
      · rw [h] at h2; cases h2; cases h3.1
      · rw [h] at h2; cases h2
        obtain ⟨⟨d', e1⟩, e2⟩ := h3.2.2.2.1 d rfl
        rw [h3.2.1, e2] at ha
        exact S.loc i d' e1 a ha
    · rw [outE hi] at h
      rw [fpOut hi] at ha
      exact S.loc i d h a ha
  · rcases src h with ⟨a1, b1⟩ | ⟨j1, a1, b1⟩
    · obtain ⟨o, ho, d⟩ := S.own i a b1
      exact ⟨o, (same a1 b1).trans ho, d⟩
    · exact S2.own j1 a b1
  · obtain ⟨h1, h2, h3, h4⟩ := S.tm p hp
    have nM : p.1 ∉ (ixs as).flatMap fp := fun z => by
      obtain ⟨k, _, hk2⟩ := ofM z
      exact h4 k hk2
    refine ⟨stay _ _ h1 nM h2, fun f => ?_, h3, fun i h => ?_⟩
    · rcases grow _ f with z | z
      · exact h2 z
      · rw [h1] at z; cases z
    · rcases src h with ⟨a1, b1⟩ | ⟨j1, a1, b1⟩
      · exact h4 i b1
      · rcases S2.ne j1 _ b1 with z | z
        · exact nM z
        · have z : H p.1 = none := z
          rw [h1] at z; cases z
  · have h4 := S.keepN a o h1 h2 h3
    refine stay a o h4 (fun z => ?_) fun f => ?_
    · obtain ⟨k, _, hk2⟩ := ofM z
      rcases S.ne k a hk2 with z | z
      · exact h2 z
      · rw [h1] at z; cases z
    · rcases S.grow a f with z | z
      · exact h3 z
      · rw [h1] at z; cases z
  · obtain ⟨h1, h2⟩ := S.keepF a f
    exact ⟨(ext a h1).1, (ext a h1).2.trans h2⟩
  · rcases grow a f with z | z
    · exact S.grow a z
    · exact .inr (S.newG z)
  · obtain ⟨o, ho⟩ := S.m0 a h
    by_cases hM : a ∈ (ixs as).flatMap fp
    · exact S2.m0 a hM
    · by_cases f : F a
      · obtain ⟨u, hu, _⟩ := S2.dom a (ext a f).1
        exact ⟨u, hu⟩
      · exact ⟨o, stay a o ho hM f⟩
  · by_cases hi : i ∈ ixs as
    · obtain ⟨j, hj⟩ := ixs_pos hi
      obtain ⟨v, s', h1, h2, h3 | h3⟩ := held hj
      · rw [h] at h2; cases h2; rw [h3.1] at p; cases p
      · rw [h] at h2; cases h2
        obtain ⟨s0, e1, e2⟩ := h3.2.2.2.2 p
        exact S.par i s0 e1 e2 l
    · rw [outE hi] at h
      exact S.par i s h p l

theorem ixs_app {as bs : List Ar} : ixs (as ++ bs) = ixs as ++ ixs bs := by
  induction as with
  | nil => rfl
  | cons a as ih => cases a <;> simp [ixs, ih]
theorem ixs_im : ∀ ds : List D, ixs (ds.map Ar.im) = []
  | [] => rfl
  | _ :: ds => ixs_im ds
theorem all_im {env : EnvD} : ∀ ds : List D, (ds.map Ar.im).all (okA env) = true
  | [] => rfl
  | _ :: ds => by simp only [List.map_cons, List.all_cons, okA, all_im ds]; rfl
theorem ixs_lt {as : List Ar} {vs : List V} (av : AVs K F H σ as vs) : ∀ i ∈ ixs as, i < σ.length := by
  induction av with
  | nil => intro i h; simp [ixs] at h
  | im _ _ ih => exact ih
  | sl h _ ih =>
    intro i hi
    simp only [ixs, List.mem_cons] at hi
    rcases hi with rfl | hi
    · exact (List.getElem?_eq_some_iff.mp h).1
    · exact ih i hi
/-- a result that comes out of a call -/
def outR (Q : R → EnvD → Prop) (r : R) (env : EnvD) : Prop := match r with
  | .br _ => False
  | r => Q r env
theorem RV.leave {as : List Ar} {vs : List V} {fp2 : Nat → List Addr} {σ2 : St} {env2 : EnvD} {v : V} {r : R} {E : EnvD} (S : SR K G tmp F σ H env fp) (S2 : SR K (ghOf G.T H F fp as vs) [] F' σ2 H' env2 fp2)
    (hq : ∀ i, r ≠ .br i) (r2 : RV K (ghOf G.T H F fp as vs) [] F' σ2 H' env2 fp2 v r) : RV K G tmp F' σ H' E (fpB fp as E fp2) v r := by
  cases r with
  | sh d => exact r2
  | br i => exact absurd rfl (hq i)
  | fr d =>
    obtain ⟨a, rfl, ow, h1, h2, h3, h4⟩ := r2
    have h3 : H a = none := h3
    refine ⟨a, rfl, ow, h1, fun i hi => ?_, S.newG h3, S.newT h3⟩
    unfold fpB at hi
    split at hi
    · split at hi
      · cases hi
      · exact h2 _ hi
    · exact S.newFp h3 i hi
end
/-! ### f(..) -/
def wCall (sem : Sem) (ms : List Bool) (dargs : List D) (wr : WA) (Ed : XD → EnvD → Prop) : WE := fun env Q => wr env fun rs env1 => fzm ms rs env1 fun as env2 =>
  (ixs as).Nodup ∧ as.all (okA env2) = true ∧ sem ((as ++ dargs.map Ar.im).map (arSl env2)) (fun r args => outR (fun r e => Q r e) r (putBack env2 (as ++ dargs.map Ar.im) args))
    (fun x args => Ed x (putBack env2 (as ++ dargs.map Ar.im) (args.take (as.length + dargs.length))))
section
variable {X : Cx} {G : Gh} {k n m : Nat} {f C : Addr} {fd : FuncData} {ps : List Str} {sem : Sem} {dvs : List V} {ds : List Value} {dargs : List D} {E : XK} {Ed : XD → EnvD → Prop} {x : Str} {p pos apos : Pos} {e o : Expr} {es : List Expr} {ms : List Bool} {wr : WA} {we : WE}
/-- the heart of a call: the arguments are there -/
theorem call_core {K : PySem.W.Frag} {tmp : List (Addr × HO)} {F : Addr → Prop} {σ : St} {H : Hp} {env : EnvD} {fp : Nat → List Addr} {as : List Ar} {vs : List V} {Q : VK} {Qd : R → EnvD → Prop} (S : SR K G tmp F σ H env fp) (av : AVs K F H σ as vs) (hl : as.length = n)
    (hn : (ixs as).Nodup) (hk : as.all (okA env) = true) (hlk : Link K G E Ed)
    (hs : sem (as.map (arSl env)) (fun r args => outR Qd r (putBack env as args)) (fun x args => Ed x (putBack env as (args.take n))))
    (k : ∀ r env' v H' F' fp', Ext F H F' H' → SR K G tmp F' σ H' env' fp' → RV K G tmp F' σ H' env' fp' v r → Qd r env' → Q v H') : spD K n sem vs H Q E := by
  refine ⟨by rw [av.length, hl], ghOf G.T H F fp as vs, F, as.map (arSl env), fpA fp as, _, _, S.enter av hn hk, rfl, hs, fun r v F' σ' H' env' fp' S' r' q => ?_, fun x cv od tmp' F' σ' H' env' fp' S' xr q => ?_⟩
  · rw [List.length_map] at q
    obtain ⟨e1, S1⟩ := S.leave av hn (Nat.le_refl _) S'
    have hb : ∀ i, r ≠ .br i := fun i e => by subst e; exact q
    have q' : Qd r (putBack env as (env'.take as.length)) := by
      cases r with
      | sh d => exact q
      | fr d => exact q
      | br i => exact absurd rfl (hb i)
    exact k r _ v H' F' _ e1 S1 (RV.leave S S' hb r') q'
  · obtain ⟨e1, S1⟩ := S.leave av hn (m := n) (by omega) S'
    exact hlk x cv od _ _ _ _ _ _ S1 xr q
theorem lift_call {K : PySem.W.Frag} {σ : St} {H : Hp} {Q : VK} (hlk : Link K G E Ed) (hdd : ∀ F H, Dats K F H dargs dvs) (hn : m + dargs.length = n) (h : lift K G (wCall sem ms dargs wr Ed) σ H Q) : liftA K G m wr σ H fun vs H1 => spD K n sem (vs ++ dvs) H1 Q E := by
  obtain ⟨tmp, F, env, fp, Qd, S, h, k⟩ := h
  refine ⟨tmp, F, env, fp, _, S, h, fun rs env1 vs H1 F1 fp1 hl e1 S1 r1 h1 => ?_⟩
  obtain ⟨as, env2, F2, fp2, S2, e2, av, h2, h3, h4⟩ := S1.fzm r1 h1
  have av' := av.app (hdd F2 H1)
  have la : as.length = m := by
    have := av.length
    have h5 := r1.length
    omega
  refine call_core S2 av' (by simp [la, hn]) (by rw [ixs_app, ixs_im, List.append_nil]; exact h2) (by rw [List.all_append, h3, all_im]; rfl) hlk ?_ fun r env' v H' F' fp' e' S' r' q => k _ _ _ _ _ _ ((e1.trans e2).trans e') S' r' q
  rw [la, hn] at h4
  exact h4
theorem de_call (F : FnOk X.prog X.w X.K X.mg X.base (L2.CX X.prog X.w) k f fd ps (spD X.K n sem)) (hr : Room k X.A) (hg : Gl X x) (hm : X.mg x = some (.ref f)) (hk : PySem.W.keepIn X.K (.ref f) = true) (hb : Binds X.K fd ps ds) (hd : Vals dvs ds)
    (hx : Passes (L2.CX X.prog X.w) X E) (hlk : Link X.K G E Ed) (hdd : ∀ F H, Dats X.K F H dargs dvs) (ha : DA X G (e :: es) m wr) (hn : m + dargs.length = n := by rfl) (hdb : (x == ("__debug__" : Str)) = false := by decide)
    (he : starEach (e :: es) X.env = (false, eval e X.env) :: starEach es X.env := by rfl) (hpl : (backTo pos (starEach es X.env)).any (·.1) = false := by rfl) : DE X G (.Call (.Name x p) (e :: es) [] pos) (wCall sem ms dargs wr Ed) :=
  PE.imp (pe_call F hr hg hm hk hb hd hx ha hdb he hpl) fun _ _ _ h => lift_call hlk hdd hn h
theorem de_call0 (F : FnOk X.prog X.w X.K X.mg X.base (L2.CX X.prog X.w) k f fd ps (spD X.K n sem)) (hr : Room k X.A) (hg : Gl X x) (hm : X.mg x = some (.ref f)) (hk : PySem.W.keepIn X.K (.ref f) = true) (hb : Binds X.K fd ps ds) (hd : Vals dvs ds)
    (hx : Passes (L2.CX X.prog X.w) X E) (hlk : Link X.K G E Ed) (hdd : ∀ F H, Dats X.K F H dargs dvs) (hn : 0 + dargs.length = n := by rfl) (hdb : (x == ("__debug__" : Str)) = false := by decide) : DE X G (.Call (.Name x p) [] [] pos) (wCall sem [] dargs wNil Ed) := by
  refine PE.imp (pe_call0 F hr hg hm hk hb hd hx hdb) fun σ H Q h => ?_
  obtain ⟨tmp, F, env, fp, Qd, S, h, k⟩ := lift_call (wr := wNil) (m := 0) hlk hdd hn h
  exact k [] env [] H F fp rfl Ext.refl S .nil h
end
end DL
namespace DL
open PySem PySem.Spec PyProof.Rows L2
section
variable {K : PySem.W.Frag} {G : Gh} {tmp : List (Addr × HO)} {F F' : Addr → Prop} {σ σ' : St} {H H' : Hp} {env env' : EnvD} {fp fp' : Nat → List Addr}
/-- one slot more, for a while -/
theorem SR.push (S : SR K G tmp F σ H env fp) {a : Addr} {d : D} (ow : Own K F H d a) (h1 : ¬ F a) (h2 : ∀ i, a ∉ fp i) (h3 : G.H0 a = none) (h4 : ∀ q ∈ tmp, q.1 ≠ a) :
    ∃ fp1, SR K G tmp F (σ ++ [some (.ref a)]) H (env ++ [.ow d]) fp1 := by
  have S1 := S.more 1
  have hi : env.length < (env ++ uns 1).length := by simp [uns]
  have S2 := S1.put (i := env.length) hi (s' := .ow d) (o := some (.ref a)) (l := [a]) Ch.refl ⟨a, rfl, rfl, ow⟩ (fun b hb => ?_) (fun d' _ => .inr fun b hb => ?_) (fun h => nomatch h) fun _ _ _ _ => rfl
  · have e1 : (σ ++ List.replicate 1 none).set env.length (some (.ref a)) = σ ++ [some (.ref a)] := by
      rw [← S.len, List.set_append_right _ _ (Nat.le_refl _), Nat.sub_self]; rfl
    have e2 : (env ++ uns 1).set env.length (.ow d) = env ++ [.ow d] := by
      rw [List.set_append_right _ _ (Nat.le_refl _), Nat.sub_self]; rfl
    rw [e1, e2] at S2
    exact ⟨_, S2⟩
  · simp at hb; subst hb
    refine .inr ⟨h1, fun j hj => ?_, h3, h4⟩
    split at hj
    · exact h2 j hj
    · cases hj
  · simp at hb; subst hb; exact h3
/-- .. and off again -/
theorem SR.pop {o : Option V} {s : Sl} (S : SR K G tmp F (σ ++ [o]) H (env ++ [s]) fp) (hl : G.S0.length ≤ env.length) : SR K G tmp F σ H env (fun j => if j < env.length then fp j else []) := by
  have ls : σ.length = env.length := by have := S.len; simpa using this
  have sub : ∀ j b, b ∈ (if j < env.length then fp j else []) → j < env.length ∧ b ∈ fp j := fun j b h => by
    by_cases e : j < env.length
    · rw [if_pos e] at h; exact ⟨e, h⟩
    · rw [if_neg e] at h; cases h
  have at_ : ∀ {j : Nat} {t : Sl}, env[j]? = some t → j < env.length ∧ (env ++ [s])[j]? = some t ∧ (σ ++ [o])[j]? = σ[j]? := fun {j t} h => by
    have hj : j < env.length := (List.getElem?_eq_some_iff.mp h).1
    exact ⟨hj, by rw [List.getElem?_append_left hj]; exact h, List.getElem?_append_left (by omega)⟩
  refine ⟨ls, fun j t h => ?_, fun i j a h1 h2 => S.dj i j a (sub i a h1).2 (sub j a h2).2, fun i a h => S.nf i a (sub i a h).2, fun i a h => S.ne i a (sub i a h).2, fun i d h a ha => S.loc i d (at_ h).2.1 a (sub i a ha).2,
    fun i a h => S.own i a (sub i a h).2, fun p hp => ⟨(S.tm p hp).1, (S.tm p hp).2.1, (S.tm p hp).2.2.1, fun i h => (S.tm p hp).2.2.2 i (sub i _ h).2⟩, S.dom, S.keepN, S.keepF, S.grow, S.tabs, S.m0, fun j t h p l => ?_, hl, S.td⟩
  · obtain ⟨hj, h1, h2⟩ := at_ h
    obtain ⟨u, h3, h4⟩ := S.sl j t h1
    exact ⟨u, h2.symm.trans h3, by rw [if_pos hj]; exact h4⟩
  · obtain ⟨hj, h1, h2⟩ := at_ h
    rw [← h2]
    exact S.par j t h1 p l
theorem SR.popOw {o : Option V} {d : D} {v : V} (S : SR K G tmp F (σ ++ [o]) H (env ++ [.ow d]) fp) (hl : G.S0.length ≤ env.length) (ho : o = some v) :
    RV K G tmp F σ H env (fun j => if j < env.length then fp j else []) v (.fr d) := by
  have ls : σ.length = env.length := by have := S.len; simpa using this
  have hi : (env ++ [Sl.ow d])[env.length]? = some (.ow d) := by rw [List.getElem?_append_right (Nat.le_refl _), Nat.sub_self]; rfl
  obtain ⟨u, h1, a, h2, h3, ow⟩ := S.sl env.length _ hi
  rw [← ls, List.getElem?_append_right (Nat.le_refl _), Nat.sub_self] at h1
  have h1 : o = u := Option.some.inj h1
  subst h1
  rw [ho] at h3
  cases h3
  have ha : a ∈ fp env.length := by rw [h2]; simp
  refine ⟨a, rfl, ow, S.nf _ a ha, fun i h => ?_, S.loc _ d hi a ha, fun q hq e => (S.tm q hq).2.2.2 env.length (e ▸ ha)⟩
  have h : a ∈ (if i < env.length then fp i else []) := h
  split at h
  · rename_i hlt
    have := S.dj i env.length a h ha
    omega
  · cases h
theorem putBack_app : ∀ {as : List Ar} {env : EnvD} {t : Sl} {ss : List Sl}, (∀ i ∈ ixs as, i < env.length) → putBack (env ++ [t]) as ss = putBack env as ss ++ [t]
  | [], env, t, ss, _ => by cases ss <;> rfl
  | .im _ :: as, env, t, [], _ => rfl
  | .sl _ :: as, env, t, [], _ => rfl
  | .im _ :: as, env, t, s :: ss, h => putBack_app (as := as) fun i hi => h i hi
  | .sl m :: as, env, t, s :: ss, h => by
    have hm : m < env.length := h m (by simp [ixs])
    show putBack ((env ++ [t]).set m (back (env ++ [t])[m]? s)) as ss = putBack (env.set m (back env[m]? s)) as ss ++ [t]
    rw [List.getElem?_append_left hm, List.set_append_left _ _ hm]
    exact putBack_app (as := as) fun i hi => by rw [List.length_set]; exact h i (by simp [ixs, hi])
theorem arSl_app {t : Sl} {as : List Ar} (h : ∀ i ∈ ixs as, i < env.length) : as.map (arSl (env ++ [t])) = as.map (arSl env) := by
  induction as with
  | nil => rfl
  | cons a as ih =>
    cases a with
    | im d => simp only [List.map_cons, arSl]; rw [ih fun i hi => h i hi]
    | sl m =>
      have hm : m < env.length := h m (by simp [ixs])
      simp only [List.map_cons]
      rw [ih fun i hi => h i (by simp [ixs, hi])]
      congr 1
      unfold arSl
      dsimp only
      rw [List.getElem?_append_left hm]
theorem okA_app {t : Sl} {as : List Ar} (h : ∀ i ∈ ixs as, i < env.length) : as.all (okA (env ++ [t])) = as.all (okA env) := by
  induction as with
  | nil => rfl
  | cons a as ih =>
    cases a with
    | im d => simp only [List.all_cons, okA]; rw [ih fun i hi => h i hi]
    | sl m =>
      have hm : m < env.length := h m (by simp [ixs])
      simp only [List.all_cons]
      rw [ih fun i hi => h i (by simp [ixs, hi])]
      congr 1
      unfold okA
      dsimp only
      rw [List.getElem?_append_left hm]
end
/-! ### C(..) -/
def makeQ (Q : R → EnvD → Prop) (env : EnvD) (as : List Ar) (r : R) (args : List Sl) : Prop := match r, args with
  | .sh .non, .pm (.ins c fs) :: rest => Q (.fr (.ins c fs)) (putBack env as rest)
  | _, _ => False
def wMake (c : Str) (sem : Sem) (ms : List Bool) (dargs : List D) (wr : WA) (Ed : XD → EnvD → Prop) : WE := fun env Q => wr env fun rs env1 => fzm ms rs env1 fun as env2 =>
  (ixs as).Nodup ∧ as.all (okA env2) = true ∧ sem (.pm (.ins c []) :: (as ++ dargs.map Ar.im).map (arSl env2)) (makeQ Q env2 (as ++ dargs.map Ar.im))
    (fun x args => Ed x (putBack env2 (as ++ dargs.map Ar.im) ((args.take (as.length + dargs.length + 1)).drop 1)))
section
variable {X : Cx} {G : Gh} {k n m : Nat} {f : Addr} {fd : FuncData} {ps : List Str} {sem : Sem} {dvs : List V} {ds : List Value} {dargs : List D} {E : XK} {Ed : XD → EnvD → Prop} {c x : Str} {p pos apos : Pos} {e o : Expr} {es : List Expr} {ms : List Bool} {wr : WA} {we : WE}
theorem lift_make {K : PySem.W.Frag} {σ : St} {H : Hp} {Q : VK} (hlk : Link K G E Ed) (hdd : ∀ F H, Dats K F H dargs dvs) (hn : m + dargs.length + 1 = n) (h : lift K G (wMake c sem ms dargs wr Ed) σ H Q) : tMake (He.ga K c) (spD K n sem) dvs E (liftA K G m wr) σ H Q := by
  obtain ⟨tmp, F, env, fp, Qd, S, h, k⟩ := h
  refine ⟨tmp, F, env, fp, _, S, h, fun rs env1 vs H1 F1 fp1 hl e1 S1 r1 h1 => ?_⟩
  obtain ⟨as, env2, F2, fp2, S2, e2, av, h2, h3, h4⟩ := S1.fzm r1 h1
  intro x dx nx ndx nxd
  have av' := av.app (hdd F2 H1)
  have la : as.length = m := by
    have := av.length
    have h5 := r1.length
    omega
  have n1 : upd H1 dx (.own x) x = none := by rw [upd_ne (Ne.symm nxd)]; exact nx
  have S3 : SR K G tmp F2 σ (upd (upd H1 dx (.own x)) x (.ins (He.ga K c) dx [])) env2 fp2 := (S2.alloc ndx).alloc n1
  have e3 : Ext F2 H1 F2 (upd (upd H1 dx (.own x)) x (.ins (He.ga K c) dx [])) := (Ext.upd (S2.newF ndx)).trans (Ext.upd (S2.newF nx))
  have ow : Own K F2 (upd (upd H1 dx (.own x)) x (.ins (He.ga K c) dx [])) (.ins c []) x := ⟨dx, [], upd_same, .nil⟩
  obtain ⟨fp4, S4⟩ := S3.push ow (S2.newF nx) (S2.newFp nx) (S2.newG nx) (S2.newT nx)
  have lt : ∀ i ∈ ixs (as ++ dargs.map Ar.im), i < env2.length := fun i hi => by rw [← S2.len]; exact ixs_lt av' i hi
  have av4 : AVs K F2 (upd (upd H1 dx (.own x)) x (.ins (He.ga K c) dx [])) (σ ++ [some (.ref x)]) (.sl env2.length :: (as ++ dargs.map Ar.im)) (.ref x :: (vs ++ dvs)) := by
    refine .sl ?_ ?_
    · rw [← S2.len, List.getElem?_append_right (Nat.le_refl _), Nat.sub_self]; rfl
    · have q := av'.mono e3
      clear h1 h4 k
      revert q
      generalize as ++ dargs.map Ar.im = bs
      generalize vs ++ dvs = ws
      intro q
      induction q with
      | nil => exact .nil
      | im h _ ih => exact .im h ih
      | sl h _ ih => exact .sl (by rw [List.getElem?_append_left (List.getElem?_eq_some_iff.mp h).1]; exact h) ih
  have hnd : (ixs (.sl env2.length :: (as ++ dargs.map Ar.im))).Nodup := by
    refine List.nodup_cons.mpr ⟨fun z => Nat.lt_irrefl _ (lt _ z), ?_⟩
    rw [ixs_app, ixs_im, List.append_nil]; exact h2
  have hok : (Ar.sl env2.length :: (as ++ dargs.map Ar.im)).all (okA (env2 ++ [.ow (.ins c [])])) = true := by
    rw [List.all_cons, okA_app lt, List.all_append, h3, all_im]
    unfold okA
    dsimp only
    rw [List.getElem?_append_right (Nat.le_refl _), Nat.sub_self]
    rfl
  have eA : (Ar.sl env2.length :: (as ++ dargs.map Ar.im)).map (arSl (env2 ++ [.ow (.ins c [])])) = .pm (.ins c []) :: (as ++ dargs.map Ar.im).map (arSl env2) := by
    rw [List.map_cons, arSl_app lt]
    congr 1
    unfold arSl
    dsimp only
    rw [List.getElem?_append_right (Nat.le_refl _), Nat.sub_self]
    rfl
  have ePB : ∀ s rest, putBack (env2 ++ [.ow (.ins c [])]) (.sl env2.length :: (as ++ dargs.map Ar.im)) (s :: rest) = putBack env2 (as ++ dargs.map Ar.im) rest ++ [back (some (Sl.ow (.ins c []))) s] := fun s rest => by
    show putBack ((env2 ++ [Sl.ow (.ins c [])]).set env2.length (back (env2 ++ [Sl.ow (.ins c [])])[env2.length]? s)) (as ++ dargs.map Ar.im) rest = _
    rw [List.getElem?_append_right (Nat.le_refl _), Nat.sub_self, List.set_append_right _ _ (Nat.le_refl _), Nat.sub_self]
    exact putBack_app lt
  have hS0 : G.S0.length ≤ env2.length := S2.ls
  have hEd : Link K G E Ed := hlk
  refine ⟨by simp [av.length, la]; have := (hdd F2 H1).length; omega, ghOf G.T _ F2 fp4 (.sl env2.length :: (as ++ dargs.map Ar.im)) (.ref x :: (vs ++ dvs)), F2, _, _, makeQ Qd env2 (as ++ dargs.map Ar.im), (fun x args => Ed x (putBack env2 (as ++ dargs.map Ar.im) ((args.take n).drop 1))), S4.enter av4 hnd hok, rfl, ?_, fun r v F' σ' H' env' fp' S' r' q => ?_, fun xd cv od tmp' F' σ' H' env' fp' S' xr q => ?_⟩
  · rw [eA]
    rw [la, hn] at h4
    exact h4
  · rw [List.length_map] at q
    obtain ⟨e5, S5⟩ := S4.leave av4 hnd (Nat.le_refl _) S'
    generalize env'.take (Ar.sl env2.length :: (as ++ dargs.map Ar.im)).length = args at q S5
    unfold makeQ at q
    split at q
    · rename_i c' fs rest
      have hv : v = .non := by
        have r' : Dat K F' H' .non v := r'
        cases r'; rfl
      refine ⟨hv, ?_⟩
      rw [ePB] at S5
      have hb : back (some (Sl.ow (.ins c []))) (.pm (.ins c' fs)) = .ow (.ins c' fs) := rfl
      rw [hb] at S5
      have lE : (putBack env2 (as ++ dargs.map Ar.im) rest).length = env2.length := putBack_length
      exact k (.fr (.ins c' fs)) _ _ _ _ _ (((e1.trans e2).trans e3).trans e5) (S5.pop (by rw [lE]; exact hS0)) (S5.popOw (by rw [lE]; exact hS0) rfl) q
    · exact q.elim
  · obtain ⟨e5, S5⟩ := S4.leave av4 hnd (m := n) (by simp [la]; omega) S'
    have hl1 : 1 ≤ (env'.take n).length := by
      have h6 := S'.ls
      have h7 : (ghOf G.T (upd (upd H1 dx (.own x)) x (.ins (He.ga K c) dx [])) F2 fp4 (.sl env2.length :: (as ++ dargs.map Ar.im)) (.ref x :: (vs ++ dvs))).S0.length = (vs ++ dvs).length + 1 := by simp [ghOf]
      rw [List.length_take]
      omega
    generalize env'.take n = args at q S5 hl1
    cases args with
    | nil => simp at hl1
    | cons s rest =>
      rw [ePB] at S5
      have lE : (putBack env2 (as ++ dargs.map Ar.im) rest).length = env2.length := putBack_length
      exact hEd xd cv od _ _ _ _ _ _ (S5.pop (by rw [lE]; exact hS0)) xr q
theorem de_make (M : Mk X.K (He.ga X.K c) f) (F : FnOk X.prog X.w X.K X.mg X.base (L2.CX X.prog X.w) k f fd ps (spD X.K n sem)) (hr : Room (k + 1) X.A) (hg : Gl X x) (hm : X.mg x = some (.ref (He.ga X.K c))) (hb : Binds X.K fd ps ds) (hd : Vals dvs ds)
    (hx : Passes (L2.CX X.prog X.w) X E) (hlk : Link X.K G E Ed) (hdd : ∀ F H, Dats X.K F H dargs dvs) (ha : DA X G (e :: es) m wr) (hn : m + dargs.length + 1 = n := by rfl) (hdb : (x == ("__debug__" : Str)) = false := by decide)
    (he : starEach (e :: es) X.env = (false, eval e X.env) :: starEach es X.env := by rfl) (hpl : (backTo pos (starEach es X.env)).any (·.1) = false := by rfl) : DE X G (.Call (.Name x p) (e :: es) [] pos) (wMake c sem ms dargs wr Ed) :=
  PE.imp (pe_make M F hr hg hm hb hd hx ha hdb he hpl) fun _ _ _ h => lift_make hlk hdd hn h
theorem de_make0 (M : Mk X.K (He.ga X.K c) f) (F : FnOk X.prog X.w X.K X.mg X.base (L2.CX X.prog X.w) k f fd ps (spD X.K n sem)) (hr : Room (k + 1) X.A) (hg : Gl X x) (hm : X.mg x = some (.ref (He.ga X.K c))) (hb : Binds X.K fd ps ds) (hd : Vals dvs ds)
    (hx : Passes (L2.CX X.prog X.w) X E) (hlk : Link X.K G E Ed) (hdd : ∀ F H, Dats X.K F H dargs dvs) (hn : 0 + dargs.length + 1 = n := by rfl) (hdb : (x == ("__debug__" : Str)) = false := by decide) : DE X G (.Call (.Name x p) [] [] pos) (wMake c sem [] dargs wNil Ed) := by
  refine PE.imp (pe_make0 M F hr hg hm hb hd hx hdb) fun σ H Q h => ?_
  obtain ⟨tmp, F, env, fp, Qd, S, h, k⟩ := lift_make (wr := wNil) (m := 0) hlk hdd hn h
  exact k [] env [] H F fp rfl Ext.refl S .nil h
end
end DL
namespace DL
open PySem PySem.Spec PyProof.Rows L2
/-! ### what a slot alone holds is changed -/
def setD (env : EnvD) (i : Nat) (d : D) : EnvD := match env[i]? with
  | some (.ow _) => env.set i (.ow d)
  | some (.pm _) => env.set i (.pm d)
  | _ => env
section
variable {K : PySem.W.Frag} {G : Gh} {tmp : List (Addr × HO)} {F F' : Addr → Prop} {σ σ' : St} {H H' : Hp} {env env' : EnvD} {fp fp' : Nat → List Addr}
theorem SR.slot (S : SR K G tmp F σ H env fp) {i : Nat} {d : D} (h : pk env (.br i) = some d) : ∃ a, σ[i]? = some (some (.ref a)) ∧ fp i = [a] ∧ Own K F H d a ∧ i < env.length ∧ (env[i]? = some (.ow d) ∨ env[i]? = some (.pm d)) := by
  have h : (match env[i]? with | some (.ow d) => some d | some (.pm d) => some d | _ => none) = some d := h
  split at h
  · rename_i d' hi
    cases h
    obtain ⟨o, h1, a, h2, rfl, ow⟩ := S.sl i _ hi
    exact ⟨a, h1, h2, ow, (List.getElem?_eq_some_iff.mp hi).1, .inl hi⟩
  · rename_i d' hi
    cases h
    obtain ⟨o, h1, a, h2, rfl, ow⟩ := S.sl i _ hi
    exact ⟨a, h1, h2, ow, (List.getElem?_eq_some_iff.mp hi).1, .inr hi⟩
  · cases h
theorem SR.mut (S : SR K G tmp F σ H env fp) {i : Nat} {d d' : D} {a : Addr} {o : HO} (h : pk env (.br i) = some d) (hσ : σ[i]? = some (some (.ref a))) (ow : Own K F (upd H a o) d' a) :
    ∃ fp', SR K G tmp F σ (upd H a o) (setD env i d') fp' ∧ Ext F H F (upd H a o) := by
  obtain ⟨b, h1, h2, h3, hi, h4⟩ := S.slot h
  rw [hσ] at h1
  cases h1
  have ha : a ∈ fp i := by rw [h2]; simp
  have nF := S.nf i a ha
  have eσ : σ.set i (some (.ref a)) = σ := by
    have hl : i < σ.length := by rw [S.len]; exact hi
    rw [List.getElem?_eq_getElem hl] at hσ
    rw [← Option.some.inj hσ]
    exact List.set_getElem_self _
  have ch : Ch F (fun x => x ∈ fp i) H (upd H a o) := by
    refine ⟨fun x u hx _ w => ?_, fun x f => ?_, fun x u hx => ?_⟩
    · rw [upd_ne (fun (e : x = a) => w (e ▸ ha))]; exact hx
    · exact Kp.of (by rw [upd_ne (fun (e : x = a) => nF (e ▸ f))])
    · by_cases e : x = a
      · subst e; exact ⟨_, upd_same⟩
      · exact ⟨u, by rw [upd_ne e]; exact hx⟩
  have far : ∀ j x, j ≠ i → x ∈ fp j → upd H a o x = H x := fun j x hj hx => upd_ne fun e => hj (S.dj j i x hx (e ▸ ha))
  rcases h4 with h4 | h4
  · have S2 := S.put hi (s' := .ow d') (o := some (.ref a)) (l := [a]) ch ⟨a, rfl, rfl, ow⟩ (fun x hx => by simp at hx; subst hx; exact .inl ha) (fun _ _ => .inl ⟨d, h4⟩) (fun z => nomatch z) far
    rw [eσ] at S2
    refine ⟨fun j => if j = i then [a] else fp j, ?_, Ext.upd nF⟩
    unfold setD
    rw [h4]
    exact S2
  · have S2 := S.put hi (s' := .pm d') (o := some (.ref a)) (l := [a]) ch ⟨a, rfl, rfl, ow⟩ (fun x hx => by simp at hx; subst hx; exact .inl ha) (fun _ z => nomatch z) (fun _ l => by rw [← S.par i _ h4 rfl l]; exact hσ.symm) far
    rw [eσ] at S2
    refine ⟨fun j => if j = i then [a] else fp j, ?_, Ext.upd nF⟩
    unfold setD
    rw [h4]
    exact S2
def putFD (f : Str) (d : D) : List (Str × D) → List (Str × D)
  | [] => [(f, d)]
  | (g, x) :: r => if g = f then (g, d) :: r else (g, x) :: putFD f d r
theorem DatF.put {f : Str} {d : D} {v : V} (h : Dat K F H d v) : ∀ {ds : List (Str × D)} {vs : List (Str × V)}, DatF K F H ds vs → DatF K F H (putFD f d ds) (putF f v vs)
  | _, _, .nil => .cons h .nil
  | _, _, .cons (k := k) h' t => by
    unfold putFD putF
    by_cases e : k = f
    · rw [if_pos e, if_pos e]; exact .cons h t
    · rw [if_neg e, if_neg e]; exact .cons h' (DatF.put h t)
end
/-! ### fields -/
def wFld (cs : List Str) (f : Str) (we : WE) : WE := fun env Q => we env fun r env1 => match pk env1 r with
  | some (.ins c fs) => c ∈ cs ∧ (match fs.lookup f with
    | some d => Q (.sh d) env1
    | none => False)
  | _ => False
def sFldD (cs : List Str) (i : Nat) (f : Str) (we : WE) : WS := fun env D => we env fun r env1 => fz r env1 fun d env2 => match pk env2 (.br i) with
  | some (.ins c fs) => c ∈ cs ∧ fs.length < 1000 ∧ D.nx (setD env2 i (.ins c (putFD f d fs)))
  | _ => False
section
variable {X : Cx} {G : Gh} {e o b value : Expr} {we wa wb : WE} {f : Str} {pos pos' : Pos}
theorem SR.fz {K : PySem.W.Frag} {tmp : List (Addr × HO)} {F : Addr → Prop} {σ : St} {H : Hp} {env : EnvD} {fp : Nat → List Addr} {r : R} {v : V} {Q : D → EnvD → Prop} (S : SR K G tmp F σ H env fp) (h : RV K G tmp F σ H env fp v r) (q : fz r env Q) :
    ∃ d env' F' fp', SR K G tmp F' σ H env' fp' ∧ Ext F H F' H ∧ Dat K F' H d v ∧ Q d env' := by
  cases r with
  | sh d => exact ⟨d, _, F, _, S, Ext.refl, h, q⟩
  | fr d =>
    obtain ⟨F', S', e, h'⟩ := S.shareFr h
    exact ⟨d, _, F', _, S', e, h', q⟩
  | br i =>
    unfold DL.fz at q
    dsimp only at q
    split at q
    · rename_i d hi
      obtain ⟨F1, fp1, S1, e1, r1⟩ := S.freeze hi h
      exact ⟨d, _, F1, _, S1, e1, r1, q⟩
    · exact q.elim
theorem de_fld {cs : List Str} (hc : ∀ c ∈ cs, Cls X.K (He.ga X.K c) ∧ NoAttr X.K (He.ga X.K c) f) (he : DE X G e we) (hb : attributeBase e f X.env (eval e X.env) = eval e X.env := by rfl) : DE X G (.Attribute e f pos) (wFld cs f we) := by
  refine PE.imp (pe_fld he hb) fun σ H Q h => ?_
  obtain ⟨tmp, F, env, fp, Qd, S, h, k⟩ := h
  refine lift1 S h fun r env1 v H1 F1 fp1 e1 S1 r1 h1 => ?_
  split at h1
  · rename_i c fs hp
    obtain ⟨h2, h3⟩ := h1
    obtain ⟨a, dx, gs, rfl, h4, h5⟩ := (Lk.of_pk S1 r1 hp).ins
    split at h3
    · rename_i d hl
      obtain ⟨u, h6, h7⟩ := h5.look hl
      exact ⟨a, _, dx, gs, u, rfl, h4, (hc c h2).1, (hc c h2).2, h6, k (.sh d) _ _ _ _ _ e1 S1 h7 h3⟩
    · exact h3.elim
  · exact h1.elim
theorem ds_fld {cs : List Str} (i : Nat) {x : Str} (hc : ∀ c ∈ cs, Cls X.K (He.ga X.K c) ∧ NoAttr X.K (He.ga X.K c) f) (hN : X.N[i]? = some x) (he : DE X G value we)
    (hv : Vis X.env.scope x := by first | exact Or.inl rfl | exact Or.inr (Or.inl rfl) | exact Or.inr (Or.inr rfl)) (hd : (x == ("__debug__" : Str)) = false := by decide)
    (hcd : (x == ("__classdict__" : Str)) = false := by decide) {pn pa : Pos} (hs : swapsWith value (some (.Attribute (.Name x pn) f pa)) pos.line X.env = pure false := by rfl) : DS X G (.Assign [.Attribute (.Name x pn) f pa] value pos) (sFldD cs i f we) := by
  refine PS.imp (ps_fld (pe_var hN hv hd hcd) he hs) fun D σ H h => ?_
  obtain ⟨tmp, F, env, fp, Dd, S, h, k⟩ := h
  refine ⟨tmp, F, env, fp, _, S, h, fun r env1 v H1 F1 fp1 e1 S1 r1 h1 => ?_⟩
  obtain ⟨d, env2, F2, fp2, S2, e2, r2, h2⟩ := S1.fz r1 h1
  split at h2
  · rename_i c fs hp
    obtain ⟨h3, h4, h5⟩ := h2
    obtain ⟨a, h6, h7, ow, h8, h9⟩ := S2.slot hp
    obtain ⟨dx, gs, h10, h11⟩ := id ow
    have ha : a ∈ fp2 i := by rw [h7]; simp
    obtain ⟨fp3, S3, e3⟩ := S2.mut (o := .ins (He.ga X.K c) dx (putF f v gs)) (d' := .ins c (putFD f d fs)) hp h6 ⟨dx, _, upd_same, (h11.put r2).mono (Ext.upd (S2.nf i a ha))⟩
    exact ⟨.ref a, h6, a, _, dx, gs, rfl, h10, (hc c h3).1, (hc c h3).2, by rw [← h11.length]; exact h4, k.nx _ _ _ _ _ ((e1.trans e2).trans e3) S3 h5⟩
  · exact h2.elim
end
/-! ### subscripts -/
def kD : D → Option Key
  | .int i => some (.inl i)
  | .str x => some (.inr x)
  | _ => none
def fIx : Op2 := fun a b Q => match a, b with
  | .lst xs, .int i => (match atI xs i with
    | some d => Q (.sh d)
    | none => False)
  | .tup xs, .int i => (match atI xs i with
    | some d => Q (.sh d)
    | none => False)
  | .str z, .int i => z.length ≤ sizeLine ∧ (match atI z.cps.toList i with
    | some c => Q (.sh (.str ⟨#[c]⟩))
    | none => False)
  | .dct kvs, y => (match (kD y).bind (vD kvs) with
    | some d => Q (.sh d)
    | none => False)
  | _, _ => False
def rIxDct : R2 := fun x y H Q => ∃ a v, x = .ref a ∧ DGet H a y (some v) ∧ Q v H
section
variable {X : Cx} {G : Gh} {e o b value : Expr} {we wa wb : WE} {f : Str} {pos pos' : Pos}
theorem ix_dct (hu : X.A.units + 1 < cLine) : IxR X rIxDct := by
  intro value slice pins s σ H x y v u Q I rx ry h hs
  obtain ⟨a, z, rfl, g, q⟩ := h
  cases rx
  exact tail_any (dict_typeIs I g) PySem.F.slot_dict_getitem.lookup (d_getItem hu I g ry fun w' s3 I3 rw' => ⟨z, H, I3, rw', q⟩) hs
theorem kD_lk {K : PySem.W.Frag} {F : Addr → Prop} {H : Hp} {d : D} {v : V} {k : Key} (h : Lk K F H d v) (e : kD d = some k) : v = kV k := by
  cases d with
  | int i => cases e; rw [h.int]; rfl
  | str x => cases e; rw [h.str]; rfl
  | _ => cases e
theorem atI_dat {K : PySem.W.Frag} {F : Addr → Prop} {H : Hp} {ds : List D} {vs : List V} (r : Dats K F H ds vs) {i : Int} {d : D} (h : atI ds i = some d) : ∃ v, atI vs i = some v ∧ Dat K F H d v := by
  unfold atI at h ⊢
  rw [← r.length]
  obtain ⟨j, h1, h2⟩ := Option.bind_eq_some_iff.mp h
  obtain ⟨v, h3, h4⟩ := r.get h2
  exact ⟨v, by rw [h1]; exact h3, h4⟩
theorem op_Ix {K : PySem.W.Frag} : OpD K G (fun x y H Q => rIx K x y H Q ∨ rIxDct x y H Q) fIx := by
  intro tmp F env fp σ H da db v u Qd Q S l1 l2 hf k
  unfold fIx at hf
  split at hf
  · rename_i xs i
    split at hf
    · rename_i d hd
      obtain ⟨a, vs, rfl, h1, r1⟩ := l1.lst
      obtain ⟨z, h2, h3⟩ := atI_dat r1 hd
      exact .inl (.inl ⟨a, vs, i, z, rfl, l2.int, .of h1, h2, k (.sh d) _ _ _ Ext.refl S h3 hf⟩)
    · exact hf.elim
  · rename_i xs i
    split at hf
    · rename_i d hd
      obtain ⟨a, vs, rfl, h1, r1⟩ := l1.tup
      obtain ⟨z, h2, h3⟩ := atI_dat r1 hd
      exact .inl (.inr (.inl ⟨a, vs, i, z, rfl, l2.int, h1, h2, k (.sh d) _ _ _ Ext.refl S h3 hf⟩))
    · exact hf.elim
  · rename_i z i
    obtain ⟨hz, hf⟩ := hf
    split at hf
    · rename_i c hd
      exact .inl (.inr (.inr ⟨z, i, c, l1.str, l2.int, hz, hd, k (.sh (.str ⟨#[c]⟩)) _ _ _ Ext.refl S .str hf⟩))
    · exact hf.elim
  · rename_i kvs
    split at hf
    · rename_i d hd
      obtain ⟨key, h1, h2⟩ := Option.bind_eq_some_iff.mp hd
      obtain ⟨a, ks, rfl, h3, r1⟩ := l1.dct
      rcases r1.val key with ⟨z, _⟩ | ⟨d2, v2, h4, h5, h6⟩
      · rw [z] at h2; cases h2
      · rw [h4] at h2; cases h2
        have e := kD_lk l2 h1
        exact .inr ⟨a, v2, rfl, .inl ⟨ks, key, h3, e, h5.symm⟩, k (.sh d) _ _ _ Ext.refl S h6 hf⟩
    · exact hf.elim
  · exact hf.elim
theorem de_ix (hu : X.A.units + 64 < cLine) (ha : DE X G o wa) (hb : DE X G b wb) (hs : PlainIx b := by intro _ _; first | rfl | with_unfolding_all rfl) : DE X G (.Subscript o b pos) (wB fIx wa wb) :=
  PE.imp (pe_ix (ix_seq.or (ix_dct (by omega))) ha hb hs) fun _ _ _ h => lift_B op_Ix h
/-! ### slices -/
abbrev WO := EnvD → (Option Int → EnvD → Prop) → Prop
def liftO (K : PySem.W.Frag) (G : Gh) (w : WO) : TO := fun σ H Q => ∃ tmp F env fp Qd, SR K G tmp F σ H env fp ∧ w env Qd ∧ ∀ o env' H' F' fp', Ext F H F' H' → SR K G tmp F' σ H' env' fp' → Qd o env' → Q o H'
abbrev DO (X : Cx) (G : Gh) (e : Option Expr) (w : WO) : Prop := PO X e (liftO X.K G w)
theorem PO.imp {X : Cx} {e : Option Expr} {t t' : TO} (h : PO X e t) (i : ∀ σ H Q, t' σ H Q → t σ H Q) : PO X e t' := ⟨fun pins s σ H Q I q => h.run pins s σ H Q I (i σ H Q q)⟩
def wNo : WO := fun env Q => Q none env
def wSome (we : WE) : WO := fun env Q => we env fun r env1 => match r with
  | .sh (.int i) => Q (some i) env1
  | _ => False
theorem do_none : DO X G none wNo := PO.imp po_none fun σ H Q h => by
  obtain ⟨tmp, F, env, fp, Qd, S, h, k⟩ := h
  exact k _ _ _ _ _ Ext.refl S h
theorem do_some (he : DE X G e we) : DO X G (some e) (wSome we) := PO.imp (po_some he) fun σ H Q h => by
  obtain ⟨tmp, F, env, fp, Qd, S, h, k⟩ := h
  refine ⟨tmp, F, env, fp, _, S, h, fun r env1 v H1 F1 fp1 e1 S1 r1 h1 => ?_⟩
  split at h1
  · rename_i i
    have r1 : Dat X.K F1 H1 (.int i) v := r1
    cases r1
    exact ⟨i, rfl, k _ _ _ _ _ e1 S1 h1⟩
  · exact h1.elim
def cutD (xs : List D) (lo hi : Option Int) : List D := (xs.drop (HT.sIx xs.length 0 lo)).take (HT.sIx xs.length xs.length hi - HT.sIx xs.length 0 lo)
def fSl (a : D) (lo hi : Option Int) (Q : R → Prop) : Prop := match a with
  | .lst xs => Q (.fr (.lst (cutD xs lo hi)))
  | .tup xs => Q (.sh (.tup (cutD xs lo hi)))
  | .str z => z.length ≤ sizeLine ∧ Q (.sh (.str (cutS z lo hi)))
  | _ => False
def wSl (we : WE) (wl wh : WO) : WE := fun env Q => we env fun r env1 => wl env1 fun lo env2 => wh env2 fun hi env3 => match pk env3 r with
  | some d => fSl d lo hi fun r' => Q r' env3
  | none => False
theorem cut_dat {K : PySem.W.Frag} {F : Addr → Prop} {H : Hp} {ds : List D} {vs : List V} (r : Dats K F H ds vs) (lo hi : Option Int) : Dats K F H (cutD ds lo hi) (cutV vs lo hi) := by
  unfold cutD cutV
  rw [r.length]
  exact (r.drop _).take _
theorem de_slice {lo hi : Option Expr} {wl wh : WO} {p2 : Pos} (he : DE X G e we) (hl : DO X G lo wl) (hh : DO X G hi wh) : DE X G (.Subscript e (.Slice lo hi none p2) pos) (wSl we wl wh) := by
  refine PE.imp (pe_slice (sl_list.or (sl_tupA.or sl_str)) he hl hh) fun σ H Q h => ?_
  obtain ⟨tmp, F, env, fp, Qd, S, h, k⟩ := h
  refine ⟨tmp, F, env, fp, _, S, h, fun r env1 v H1 F1 fp1 e1 S1 r1 h1 => ?_⟩
  obtain ⟨F1', S1', e1', r1'⟩ := S1.hold r1
  refine ⟨tmp, F1', env1, fp1, _, S1', h1, fun lo env2 H2 F2 fp2 e2 S2 h2 => ?_⟩
  refine ⟨tmp, F2, env2, fp2, _, S2, h2, fun hi env3 H3 F3 fp3 e3 S3 h3 => ?_⟩
  have r3 := r1'.mono (env' := env3) (fp' := fp3) (e2.trans e3)
  have e4 := ((e1.trans e1').trans e2).trans e3
  split at h3
  · rename_i d hp
    have l := Lk.of_pk S3 r3 hp
    unfold fSl at h3
    split at h3
    · rename_i xs
      obtain ⟨a, vs, rfl, h5, r5⟩ := l.lst
      refine .inl ⟨a, vs, rfl, .of h5, fun p hp => ?_⟩
      obtain ⟨S4, e5, r6⟩ := S3.newFr hp (o := .lst (cutV vs lo hi)) (d := .lst (cutD xs lo hi)) ⟨_, upd_same, (cut_dat r5 lo hi).mono (Ext.upd (S3.newF hp))⟩
      exact k _ _ _ _ _ _ (e4.trans e5) S4 r6 h3
    · rename_i xs
      have ld : Dat X.K F3 H3 (.tup xs) v := by rcases l with z | ⟨_, _, z⟩; exact z; exact z.elim
      obtain ⟨a, vs, rfl, h5, r5⟩ := l.tup
      refine .inr (.inl ⟨a, vs, rfl, h5, fun hw => ?_, fun _ p hp => ?_⟩)
      · have ec : cutD xs lo hi = xs := by
          unfold cutD
          rw [r5.length, hw.1, hw.2, List.drop_zero, Nat.sub_zero, ← r5.length, List.take_length]
        rw [ec] at h3
        exact k (.sh (.tup xs)) _ _ _ _ _ e4 S3 ld h3
      · obtain ⟨S4, e5⟩ := S3.newSh hp (o := .tup (cutV vs lo hi)) rfl
        exact k (.sh (.tup (cutD xs lo hi))) _ _ _ _ _ (e4.trans e5) S4 (Dat.tup (.inr rfl) upd_same ((cut_dat r5 lo hi).mono e5)) h3
    · rename_i z
      exact .inr (.inr ⟨z, l.str, h3.1, k (.sh (.str _)) _ _ _ _ _ e4 S3 .str h3.2⟩)
    · exact h3.elim
  · exact h3.elim
def wRevL (we : WE) : WE := fun env Q => we env fun r env1 => match pk env1 r with
  | some (.lst xs) => Q (.fr (.lst xs.reverse)) env1
  | _ => False
theorem de_revL {k0 : Nat} {p1 p2 p3 : Pos} (he : DE X G e we) : DE X G (.Subscript e (.Slice none none (some (.UnaryOp .USub (.Constant (.int 1) k0 p1) p2)) p3) pos) (wRevL we) := by
  refine PE.imp (pe_revL he) fun σ H Q h => ?_
  obtain ⟨tmp, F, env, fp, Qd, S, h, k⟩ := h
  refine lift1 S h fun r env1 v H1 F1 fp1 e1 S1 r1 h1 => ?_
  split at h1
  · rename_i xs hp
    obtain ⟨a, vs, rfl, h5, r5⟩ := (Lk.of_pk S1 r1 hp).lst
    refine ⟨a, vs, rfl, .of h5, fun p hp => ?_⟩
    obtain ⟨S4, e5, r6⟩ := S1.newFr hp (o := .lst vs.reverse) (d := .lst xs.reverse) ⟨_, upd_same, r5.reverse.mono (Ext.upd (S1.newF hp))⟩
    exact k _ _ _ _ _ _ (e1.trans e5) S4 r6 h1
  · exact h1.elim
end
end DL
namespace DL
open PySem PySem.Spec PyProof.Rows L2
section
variable {K : PySem.W.Frag} {G : Gh} {tmp : List (Addr × HO)} {F F' : Addr → Prop} {σ σ' : St} {H H' : Hp} {env env' : EnvD} {fp fp' : Nat → List Addr}
theorem MtM.or {X : Cx} {id : String} {r r' : V → List V → Hp → VK → Prop} (h : MtM X id r) (h' : MtM X id r') : MtM X id (fun x xs H Q => r x xs H Q ∨ r' x xs H Q) := by
  intro pins s σ H x xs v us Q I rx rs q
  rcases q with q | q
  · exact h pins s σ H x xs v us Q I rx rs q
  · exact h' pins s σ H x xs v us Q I rx rs q
theorem PSet.or {X : Cx} {r r' : TSet} (h : PSet X r) (h' : PSet X r') : PSet X (fun o i v H Q => r o i v H Q ∨ r' o i v H Q) := by
  intro pins s σ H o i v ov iv u Q I r1 r2 r3 q
  rcases q with q | q
  · exact h pins s σ H o i v ov iv u Q I r1 r2 r3 q
  · exact h' pins s σ H o i v ov iv u Q I r1 r2 r3 q
/-! ### a thing set aside for a while -/
theorem SR.aside (S : SR K G tmp F σ H env fp) {a : Addr} {o : HO} (h0 : H a = some o) (h1 : ¬ F a) (h2 : ∀ i, a ∉ fp i) (h3 : G.H0 a = none) (hd : dataO o = true := by rfl) : SR K G ((a, o) :: tmp) F σ H env fp :=
  ⟨S.len, S.sl, S.dj, S.nf, S.ne, S.loc, S.own, fun p hp => by
    rcases List.mem_cons.mp hp with rfl | hp
    · exact ⟨h0, h1, h3, h2⟩
    · exact S.tm p hp, S.dom, S.keepN, S.keepF, S.grow, S.tabs, S.m0, S.par, S.ls, fun p hp => (List.mem_cons.mp hp).elim (fun e => by rw [e]; exact hd) (S.td p)⟩
theorem SR.untm {p : Addr × HO} (S : SR K G (p :: tmp) F σ H env fp) : SR K G tmp F σ H env fp :=
  ⟨S.len, S.sl, S.dj, S.nf, S.ne, S.loc, S.own, fun q hq => S.tm q (List.mem_cons_of_mem _ hq), S.dom, S.keepN, S.keepF, S.grow, S.tabs, S.m0, S.par, S.ls, fun q hq => S.td q (List.mem_cons_of_mem _ hq)⟩
/-- what was set aside is still the same -/
theorem RV.back {a : Addr} {o : HO} {d : D} (S : SR K G ((a, o) :: tmp) F' σ H' env' fp') (e : Ext F H F' H') (h0 : H a = some o) (ow : Own K F H d a) (h4 : ∀ q ∈ tmp, q.1 ≠ a) : RV K G tmp F' σ H' env' fp' (.ref a) (.fr d) := by
  obtain ⟨h1, h2, h3, h5⟩ := S.tm (a, o) List.mem_cons_self
  exact ⟨a, rfl, ow.mono e (h1.trans h0.symm), h2, h5, h3, h4⟩
end
/-! ### methods of lists -/
def isLst (env : EnvD) (r : R) : Prop := ∃ xs, pk env r = some (.lst xs)
def wApp (wo : WE) (wr : WA) : WE := fun env Q => wo env fun r env1 => isLst env1 r ∧ wr env1 fun rs env2 => fzs rs env2 fun ds env3 => match r, ds with
  | .br i, [d] => (match pk env3 (.br i) with
    | some (.lst xs) => xs.length < sizeLine ∧ Q (.sh .non) (setD env3 i (.lst (xs ++ [d])))
    | _ => False)
  | _, _ => False
def wPopAt (wo : WE) (wr : WA) : WE := fun env Q => wo env fun r env1 => isLst env1 r ∧ wr env1 fun rs env2 => match r, pks env2 rs with
  | .br i, some [.int j] => (match pk env2 (.br i) with
    | some (.lst xs) => -(2 ^ 63) ≤ j ∧ j < 2 ^ 63 ∧ ∃ n d, seqIndex? j xs.length = some n ∧ xs[n]? = some d ∧ Q (.sh d) (setD env2 i (.lst (xs.eraseIdx n)))
    | _ => False)
  | _, _ => False
def wPop (wo : WE) : WE := fun env Q => wo env fun r env2 => match r with
  | .br i => (match pk env2 (.br i) with
    | some (.lst xs) => ∃ d, xs[xs.length - 1]? = some d ∧ Q (.sh d) (setD env2 i (.lst xs.dropLast))
    | _ => False)
  | _ => False
section
variable {X : Cx} {G : Gh} {e o b value : Expr} {es : List Expr} {n : Nat} {we wo wi wa wb : WE} {wr : WA} {f : Str} {pos pos' apos cpos : Pos}
theorem isLst_ty {K : PySem.W.Frag} {tmp : List (Addr × HO)} {F : Addr → Prop} {σ : St} {H : Hp} {env : EnvD} {fp : Nat → List Addr} (S : SR K G tmp F σ H env fp) {v : V} {r : R} (h : RV K G tmp F σ H env fp v r.hold) (l : isLst env r) : tyV K "list" v H := by
  obtain ⟨xs, hx⟩ := l
  obtain ⟨a, vs, rfl, h1, r1⟩ := (Lk.of_pk S h hx).lst
  exact .inl ⟨rfl, vs, .of h1⟩
theorem SR.lstAt {K : PySem.W.Frag} {tmp : List (Addr × HO)} {F : Addr → Prop} {σ : St} {H : Hp} {env : EnvD} {fp : Nat → List Addr} (S : SR K G tmp F σ H env fp) {i : Nat} {v : V} {xs : List D} (hv : σ[i]? = some (some v)) (h : pk env (.br i) = some (.lst xs)) :
    ∃ a vs, v = .ref a ∧ H a = some (.lst vs) ∧ Dats K F H xs vs ∧ ¬ F a := by
  obtain ⟨a, h1, h2, ow, h3, h4⟩ := S.slot h
  rw [hv] at h1
  cases h1
  obtain ⟨vs, h5, h6⟩ := ow
  exact ⟨a, vs, rfl, h5, h6, S.nf i a (by rw [h2]; simp)⟩
theorem de_append (ho : DE X G o wo) (ha : DA X G (e :: es) n wr)
    (hbase : attributeBase o "append" X.env (eval o X.env) = eval o X.env := by rfl)
    (hfew : ((backTo cpos (starEach (e :: es) X.env)).all (fun x => !x.1) && (backToKw cpos (keywordEach [] X.env)).all (fun x => x.1.isSome)
      && decide ((e :: es).length + ([] : List Keyword).length + (if ([] : List Keyword).isEmpty then 0 else 1) < 30)) = true := by rfl)
    (hline : (apos.endLine == cpos.line) = true := by rfl) (hs : starEach (e :: es) X.env = (false, eval e X.env) :: starEach es X.env := by rfl) (hplain : (backTo cpos (starEach es X.env)).any (·.1) = false := by rfl) :
    DE X G (.Call (.Attribute o "append" apos) (e :: es) [] cpos) (wApp wo wr) := by
  refine PE.imp (pe_bm PySem.F.plainAttrs_list PySem.F.slot_list_append PySem.F.type_list_append mt_append ho ha hbase hfew hline hs hplain) fun σ H Q h => ?_
  obtain ⟨tmp, F, env, fp, Qd, S, h, k⟩ := h
  refine lift1 S h fun r env1 v H1 F1 fp1 e1 S1 r1 h1 => ?_
  refine ⟨isLst_ty S1 r1 h1.1, tmp, F1, env1, fp1, _, S1, h1.2, fun rs env2 vs H2 F2 fp2 hl e2 S2 r2 h2 => ?_⟩
  obtain ⟨ds, env3, F3, fp3, S3, e3, r3, hl3, h3⟩ := S2.freezes r2 h2
  split at h3
  · rename_i i d
    split at h3
    · rename_i xs hx
      obtain ⟨a, us, rfl, h5, h6, nF⟩ := S3.lstAt r1 hx
      cases r3 with
      | cons r3 t3 =>
        cases t3
        obtain ⟨fp4, S4, e4⟩ := S3.mut (o := .lst (us ++ [_])) (d' := .lst (xs ++ [d])) hx r1 ⟨_, upd_same, (h6.append (.cons r3 .nil)).mono (Ext.upd nF)⟩
        exact ⟨a, us, _, rfl, rfl, h5, by rw [← h6.length]; exact h3.1, k (.sh .non) _ _ _ _ _ (((e1.trans e2).trans e3).trans e4) S4 .non h3.2⟩
    · exact h3.elim
  · exact h3.elim
theorem de_popAt (ho : DE X G o wo) (ha : DA X G (e :: es) n wr)
    (hbase : attributeBase o "pop" X.env (eval o X.env) = eval o X.env := by rfl)
    (hfew : ((backTo cpos (starEach (e :: es) X.env)).all (fun x => !x.1) && (backToKw cpos (keywordEach [] X.env)).all (fun x => x.1.isSome)
      && decide ((e :: es).length + ([] : List Keyword).length + (if ([] : List Keyword).isEmpty then 0 else 1) < 30)) = true := by rfl)
    (hline : (apos.endLine == cpos.line) = true := by rfl) (hs : starEach (e :: es) X.env = (false, eval e X.env) :: starEach es X.env := by rfl) (hplain : (backTo cpos (starEach es X.env)).any (·.1) = false := by rfl) :
    DE X G (.Call (.Attribute o "pop" apos) (e :: es) [] cpos) (wPopAt wo wr) := by
  refine PE.imp (pe_bm PySem.F.plainAttrs_list PySem.F.slot_list_pop PySem.F.type_list_pop mt_popAt ho ha hbase hfew hline hs hplain) fun σ H Q h => ?_
  obtain ⟨tmp, F, env, fp, Qd, S, h, k⟩ := h
  refine lift1 S h fun r env1 v H1 F1 fp1 e1 S1 r1 h1 => ?_
  refine ⟨isLst_ty S1 r1 h1.1, tmp, F1, env1, fp1, _, S1, h1.2, fun rs env2 vs H2 F2 fp2 hl e2 S2 r2 h2 => ?_⟩
  split at h2
  · rename_i i j hp
    split at h2
    · rename_i xs hx
      obtain ⟨h3, h4, m, d, h5, h6, h7⟩ := h2
      have L := Lks.of_pks S2 r2 hp
      cases L with
      | cons L1 L2' =>
        cases L2'
        obtain ⟨a, us, rfl, h8, h9, nF⟩ := S2.lstAt r1 hx
        obtain ⟨y, h10, h11⟩ := h9.get h6
        obtain ⟨fp4, S4, e4⟩ := S2.mut (o := .lst (us.eraseIdx m)) (d' := .lst (xs.eraseIdx m)) hx r1 ⟨_, upd_same, (h9.erase m).mono (Ext.upd nF)⟩
        exact ⟨a, us, j, m, y, rfl, by rw [L1.int], h8, h3, h4, by rw [← h9.length]; exact h5, h10, k (.sh d) _ _ _ _ _ ((e1.trans e2).trans e4) S4 (h11.mono e4) h7⟩
    · exact h2.elim
  · exact h2.elim
theorem de_pop (ho : DE X G o wo) (hbase : attributeBase o "pop" X.env (eval o X.env) = eval o X.env := by rfl) (hline : (apos.endLine == cpos.line) = true := by rfl) :
    DE X G (.Call (.Attribute o "pop" apos) [] [] cpos) (wPop wo) := by
  refine PE.imp (pe_bm0 PySem.F.plainAttrs_list PySem.F.slot_list_pop PySem.F.type_list_pop mt_pop ho hbase hline) fun σ H Q h => ?_
  obtain ⟨tmp, F, env, fp, Qd, S, h, k⟩ := h
  refine lift1 S h fun r env1 v H1 F1 fp1 e1 S1 r1 h1 => ?_
  split at h1
  · rename_i i
    split at h1
    · rename_i xs hx
      obtain ⟨d, h6, h7⟩ := h1
      obtain ⟨a, us, rfl, h8, h9, nF⟩ := S1.lstAt r1 hx
      rw [h9.length] at h6
      obtain ⟨y, h10, h11⟩ := h9.get h6
      obtain ⟨fp4, S4, e4⟩ := S1.mut (o := .lst us.dropLast) (d' := .lst xs.dropLast) hx r1 ⟨_, upd_same, h9.dropLast.mono (Ext.upd nF)⟩
      exact ⟨.inl ⟨rfl, us, .of h8⟩, a, us, y, rfl, rfl, h8, h10, k (.sh d) _ _ _ _ _ (e1.trans e4) S4 (h11.mono e4) h7⟩
    · exact h1.elim
  · exact h1.elim
/-! ### o[i] = e -/
def putAt (c key d : D) (Q : D → Prop) : Prop := match c with
  | .lst xs => (match key with
    | .int j => (match ixN xs.length j with
      | some n => Q (.lst (xs.set n d))
      | none => False)
    | _ => False)
  | .dct kvs => (match kD key with
    | some k => kvs.length < sizeLine ∧ Q (.dct (putD kvs k d))
    | none => False)
  | _ => False
def sPut (we wo wi : WE) : WS := fun env D => we env fun r env1 => wo env1 fun ro env2 => wi env2 fun ri env3 => fz r.hold env3 fun d env4 => match ro, pk env4 ri with
  | .br i, some key => (match pk env4 (.br i) with
    | some c => putAt c key d fun c' => D.nx (setD env4 i c')
    | none => False)
  | _, _ => False
theorem put_core {K : PySem.W.Frag} {tmp : List (Addr × HO)} {F : Addr → Prop} {σ : St} {H : Hp} {env : EnvD} {fp : Nat → List Addr} (S : SR K G tmp F σ H env fp) {i : Nat} {v y x : V} {c key d : D} {Qd : D → Prop} {Q : Hp → Prop} (hv : σ[i]? = some (some v)) (hp : pk env (.br i) = some c)
    (lk : Lk K F H key y) (rd : Dat K F H d x) (h : putAt c key d Qd) (k : ∀ c' H' fp', Ext F H F H' → SR K G tmp F σ H' (setD env i c') fp' → Qd c' → Q H') : rSetL v y x H Q ∨ rSetD v y x H Q := by
  obtain ⟨a, h1, h2, ow, h3, h4⟩ := S.slot hp
  rw [hv] at h1
  cases h1
  have nF : ¬ F a := S.nf i a (by rw [h2]; simp)
  unfold putAt at h
  split at h
  · rename_i xs
    split at h
    · rename_i j
      split at h
      · rename_i n hn
        obtain ⟨us, h5, h6⟩ := ow
        obtain ⟨fp4, S4, e4⟩ := S.mut (o := .lst (us.set n x)) (d' := .lst (xs.set n d)) hp hv ⟨_, upd_same, (h6.set n rd).mono (Ext.upd nF)⟩
        exact .inl ⟨a, us, j, n, rfl, lk.int, h5, by rw [← h6.length]; exact hn, k _ _ _ e4 S4 h⟩
      · exact h.elim
    · exact h.elim
  · rename_i kvs
    split at h
    · rename_i kk hk
      obtain ⟨ks, h5, h6⟩ := ow
      obtain ⟨fp4, S4, e4⟩ := S.mut (o := .dK (putK ks kk x)) (d' := .dct (putD kvs kk d)) hp hv ⟨_, upd_same, (h6.put kk rd).mono (Ext.upd nF)⟩
      have e := kD_lk lk hk
      subst e
      exact .inr ⟨a, _, rfl, DPut.k h5 (by rw [← h6.length]; exact h.1), k _ _ _ e4 S4 h.2⟩
    · exact h.elim
  · exact h.elim
theorem ds_put (hu : X.A.units + 64 < cLine) (he : DE X G e we) (ho : DE X G o wo) (hi : DE X G b wi) {tpos : Pos}
    (ha : ∀ v, assign (.Subscript o b tpos) X.env v = (do
      let ov ← holding [v] (eval o X.env)
      let iv ← holding [v, ov] (eval b X.env)
      standAt tpos
      holding [v, ov, iv] (setItem ov iv v)
      release [v, ov, iv] []) := by intro _; rfl)
    (hs : swapsWithSole [.Subscript o b tpos] e pos.line X.env = pure false := by rfl) (hw : swappedStores [.Subscript o b tpos] e X.env = pure none := by rfl)
    (h1 : (assignEach [.Subscript o b tpos] X.env).map (·.2) = [assign (.Subscript o b tpos) X.env] := by rfl) : DS X G (.Assign [.Subscript o b tpos] e pos) (sPut we wo wi) := by
  refine PS.imp (ps_asg he (pg_sub ho hi (PSet.or set_list (set_dict (by omega))) ha) hs hw h1) fun D σ H h => ?_
  obtain ⟨tmp, F, env, fp, Dd, S, h, k⟩ := h
  refine ⟨tmp, F, env, fp, _, S, h, fun r env1 v H1 F1 fp1 e1 S1 r1 h1 => ?_⟩
  obtain ⟨F1', S1', e1', r1'⟩ := S1.hold r1
  refine lift2 S1' h1 fun ro ri env3 x y H3 F3 fp3 e3 S3 r3 r4 h3 => ?_
  obtain ⟨d, env4, F4, fp4, S4, e4, rd, h4⟩ := S3.fz (r1'.mono e3) h3
  split at h4
  · rename_i i key hk
    split at h4
    · rename_i c hc
      have r4' := r4.mono (env' := env4) (fp' := fp4) e4
      exact put_core S4 r3 hc (Lk.of_pk S4 r4' hk) rd h4 fun c' H' fp' e5 S5 q => k.nx _ _ _ _ _ ((((e1.trans e1').trans e3).trans e4).trans e5) S5 q
    · exact h4.elim
  · exact h4.elim
/-! ### x op= e, of numbers -/
def sAug (g : Int → Int → Int) (i : Nat) (we : WE) : WS := fun env D => match env[i]? with
  | some (.im (.int a)) => we env fun r env1 => (match pk env1 r with
    | some (.int b) => i < env1.length ∧ D.nx (env1.set i (.im (.int (g a b))))
    | _ => False)
  | _ => False
theorem ds_aug {g : Int → Int → Int} {op : Operator} (i : Nat) {x : Str} (hN : X.N.Nodup) (hi : X.N[i]? = some x) (hx : Loc X.env.scope x) (ho : PIp X op (ipI g)) (he : DE X G e we)
    (hf : X.fn x = true ∨ X.env.scope.names.lookup x = some .local := by first | exact .inl rfl | exact .inr rfl | assumption) : DS X G (.AugAssign (.Name x pos') op e pos) (sAug g i we) := by
  refine PS.imp (ps_aug hN hi hx he ho hf) fun D σ H h => ?_
  obtain ⟨tmp, F, env, fp, Dd, S, h, k⟩ := h
  unfold sAug at h
  split at h
  · rename_i a ha
    obtain ⟨o, h1, h2, v, rfl, q⟩ := S.sl i _ ha
    cases q
    refine ⟨_, h1, lift1 S h fun r env1 v H1 F1 fp1 e1 S1 r1 h3 => ?_⟩
    split at h3
    · rename_i c hp
      exact ⟨a, c, rfl, (Lk.of_pk S1 r1 hp).int, k.nx _ _ _ _ _ e1 (S1.setIm h3.1 .int) h3.2⟩
    · exact h3.elim
  · exact h.elim
/-! ### a, b = x, y -/
def fzk (r : R) (env : EnvD) (Q : R → EnvD → Prop) : Prop := match r with
  | .br i => (match env[i]? with
    | some (.ow d) => Q (.sh d) (env.set i (.im d))
    | _ => False)
  | r => Q r env
def slOf : R → Sl
  | .sh d => .im d
  | .fr d => .ow d
  | .br _ => .un
def sPar (i j : Nat) (wa wb : WE) : WS := fun env D => wa env fun ra env1 => fzk ra env1 fun ra' env2 => wb env2 fun rb env3 => fzk rb env3 fun rb' env4 => i < env4.length ∧ j < env4.length ∧ D.nx ((env4.set i (slOf ra')).set j (slOf rb'))
theorem SR.fzk {K : PySem.W.Frag} {tmp : List (Addr × HO)} {F : Addr → Prop} {σ : St} {H : Hp} {env : EnvD} {fp : Nat → List Addr} {r : R} {v : V} {Q : R → EnvD → Prop} (S : SR K G tmp F σ H env fp) (h : RV K G tmp F σ H env fp v r) (q : fzk r env Q) :
    ∃ r' env' F' fp', SR K G tmp F' σ H env' fp' ∧ Ext F H F' H ∧ RV K G tmp F' σ H env' fp' v r' ∧ (∀ i, r' ≠ .br i) ∧ Q r' env' := by
  cases r with
  | sh d => exact ⟨.sh d, _, F, _, S, Ext.refl, h, fun _ z => (nomatch z), q⟩
  | fr d => exact ⟨.fr d, _, F, _, S, Ext.refl, h, fun _ z => (nomatch z), q⟩
  | br i =>
    unfold DL.fzk at q
    dsimp only at q
    split at q
    · rename_i d hi
      obtain ⟨F1, fp1, S1, e1, r1⟩ := S.freeze hi h
      exact ⟨.sh d, _, F1, _, S1, e1, r1, fun _ z => (nomatch z), q⟩
    · exact q.elim
/-- a slot gets a thing -/
theorem SR.setK {K : PySem.W.Frag} {tmp : List (Addr × HO)} {F : Addr → Prop} {σ : St} {H : Hp} {env : EnvD} {fp : Nat → List Addr} (S : SR K G tmp F σ H env fp) {i : Nat} (hi : i < env.length) {r : R} {v : V} (h : RV K G tmp F σ H env fp v r) (nb : ∀ i, r ≠ .br i) :
    ∃ l, SR K G tmp F (σ.set i (some v)) H (env.set i (slOf r)) (fun j => if j = i then l else fp j) ∧ ∀ a ∈ l, v = .ref a := by
  cases r with
  | sh d => exact ⟨[], S.setIm hi h, fun a h => nomatch h⟩
  | fr d =>
    obtain ⟨a, rfl, ow, h1, h2, h3, h4⟩ := h
    refine ⟨[a], S.put hi (s' := .ow d) (o := some (.ref a)) (l := [a]) Ch.refl ⟨a, rfl, rfl, ow⟩ (fun b hb => ?_) (fun d' _ => .inr fun b hb => ?_) (fun h => nomatch h) fun _ _ _ _ => rfl, fun b hb => ?_⟩
    · simp at hb; subst hb; exact .inr ⟨h1, h2, h3, h4⟩
    · simp at hb; subst hb; exact h3
    · simp at hb; subst hb; rfl
  | br j => exact absurd rfl (nb j)
theorem lift_par {K : PySem.W.Frag} {σ : St} {H : Hp} {De : Ends} {i j : Nat} (h : liftS K G (sPar i j wa wb) De σ H) : lift K G wa σ H fun v H1 => lift K G wb σ H1 fun w H2 => De.nx ((σ.set i (some v)).set j (some w)) H2 := by
  obtain ⟨tmp, F, env, fp, Dd, S, h, k⟩ := h
  refine ⟨tmp, F, env, fp, _, S, h, fun r env1 v H1 F1 fp1 e1 S1 r1 h1 => ?_⟩
  obtain ⟨ra, env2, F2, fp2, S2, e2, r2, nb, h2⟩ := S1.fzk r1 h1
  -- from here on v stands aside
  have fin : ∀ {tmp' : List (Addr × HO)} {F4 : Addr → Prop} {H4 : Hp} {env4 : EnvD} {fp4 : Nat → List Addr} {rb : R} {w : V}, SR K G tmp F4 σ H4 env4 fp4 → Ext F2 H1 F4 H4 → RV K G tmp F4 σ H4 env4 fp4 v ra → RV K G tmp F4 σ H4 env4 fp4 w rb → (∀ i, rb ≠ .br i) →
      (∀ d d', ra = .fr d → rb = .fr d' → v ≠ w) → i < env4.length ∧ j < env4.length ∧ Dd.nx ((env4.set i (slOf ra)).set j (slOf rb)) → De.nx ((σ.set i (some v)).set j (some w)) H4 := by
    intro tmp' F4 H4 env4 fp4 rb w S4 e4 ra4 rb4 nb4 ne q
    obtain ⟨l, S5, hl⟩ := S4.setK q.1 ra4 nb
    have rb5 : RV K G tmp F4 (σ.set i (some v)) H4 (env4.set i (slOf ra)) (fun m => if m = i then l else fp4 m) w rb := by
      cases rb with
      | sh d => exact rb4
      | br m => exact absurd rfl (nb4 m)
      | fr d =>
        obtain ⟨b, rfl, ow, g1, g2, g3, g4⟩ := rb4
        refine ⟨b, rfl, ow, g1, fun m hm => ?_, g3, g4⟩
        have hm : b ∈ (if m = i then l else fp4 m) := hm
        by_cases z : m = i
        · rw [if_pos z] at hm
          have ev := hl b hm
          cases ra with
          | sh d0 =>
            have S6 := S5.nf i b (by show b ∈ (if i = i then l else fp4 i); rw [if_pos rfl]; exact hm)
            have hs := S5.sl i (.im d0) (by show (env4.set i (.im d0))[i]? = _; exact List.getElem?_set_self q.1)
            obtain ⟨o, _, hs⟩ := hs
            have hs : (if i = i then l else fp4 i) = [] := hs.1
            rw [if_pos rfl] at hs
            rw [hs] at hm; cases hm
          | fr d0 => exact ne d0 d rfl rfl ev
          | br m => exact nb m rfl
        · rw [if_neg z] at hm; exact g2 m hm
    obtain ⟨l2, S6, _⟩ := S5.setK (by simpa using q.2.1) rb5 nb4
    exact k.nx _ _ _ _ _ ((e1.trans e2).trans e4) S6 q.2.2
  cases ra with
  | br m => exact absurd rfl (nb m)
  | sh d =>
    refine ⟨tmp, F2, env2, fp2, _, S2, h2, fun r env3 w H3 F3 fp3 e3 S3 r3 h3 => ?_⟩
    obtain ⟨rb, env4, F4, fp4, S4, e4, r4, nb4, h4⟩ := S3.fzk r3 h3
    exact fin (tmp' := tmp) S4 (e3.trans e4) (RV.mono (r := .sh d) r2 (e3.trans e4)) r4 nb4 (fun _ _ z => nomatch z) h4
  | fr d =>
    obtain ⟨a, rfl, ow, g1, g2, g3, g4⟩ := r2
    obtain ⟨u, hu, du⟩ := ow.data
    refine ⟨(a, u) :: tmp, F2, env2, fp2, _, S2.aside hu g1 g2 g3 du, h2, fun r env3 w H3 F3 fp3 e3 S3 r3 h3 => ?_⟩
    obtain ⟨rb, env4, F4, fp4, S4, e4, r4, nb4, h4⟩ := S3.fzk r3 h3
    have r4' : RV K G tmp F4 σ H3 env4 fp4 w rb := by
      cases rb with
      | sh d => exact r4
      | br m => exact r4
      | fr d =>
        obtain ⟨b, rfl, ow, q1, q2, q3, q4⟩ := r4
        exact ⟨b, rfl, ow, q1, q2, q3, fun q hq => q4 q (List.mem_cons_of_mem _ hq)⟩
    refine fin (tmp' := tmp) S4.untm (e3.trans e4) (RV.back S4 (e3.trans e4) hu ow g4) r4' nb4 (fun d d' _ z ev => ?_) h4
    subst z
    obtain ⟨b, rfl, ow, q1, q2, q3, q4⟩ := r4
    cases ev
    exact q4 (a, u) List.mem_cons_self rfl
theorem ds_par (i j : Nat) {x y : Str} {px py pt : Pos} {kt k2 : Nat} {pt2 : Pos} (hc : X.calm = true) (hN : X.N.Nodup) (hi : X.N[i]? = some x) (hj : X.N[j]? = some y) (hij : i ≠ j)
    (hx : X.env.scope.names.lookup x = some .local) (hy : X.env.scope.names.lookup y = some .local) (ha : DE X G e wa) (hb : DE X G o wb)
    (hw : swappedStores [.Tuple [.Name x px, .Name y py] kt pt] (.Tuple [e, o] k2 pt2) X.env = pure (some [x, y]))
    (h1 : starEach [e, o] X.env = (false, eval e X.env) :: starEach [o] X.env := by rfl) (h2 : starEach [o] X.env = (false, eval o X.env) :: starEach [] X.env := by rfl)
    (hs : swapsWithSole [.Tuple [.Name x px, .Name y py] kt pt] (.Tuple [e, o] k2 pt2) pos.line X.env = pure false := by rfl) :
    DS X G (.Assign [.Tuple [.Name x px, .Name y py] kt pt] (.Tuple [e, o] k2 pt2) pos) (sPar i j wa wb) := by
  refine PS.imp (ps_par hc hN hi hj hij hx hy (pa_cons ha (pa_cons hb pa_nil h2) h1) hw hs) fun D σ H h => ?_
  exact lift.mono (lift_par h) fun v H1 q => lift.mono q fun w H2 q => ⟨v, w, rfl, q⟩
end
end DL
namespace DL
open PySem PySem.Spec PyProof.Rows L2
theorem CallR.or {X : Cx} {f : Value} {r r' : List V → Hp → VK → Prop} (h : CallR X f r) (h' : CallR X f r') : CallR X f (fun xs H Q => r xs H Q ∨ r' xs H Q) := by
  intro pins s σ H xs us Q I rx q
  rcases q with q | q
  · exact h pins s σ H xs us Q I rx q
  · exact h' pins s σ H xs us Q I rx q
/-! ### a built-in called with data -/
abbrev OpA := List D → (R → Prop) → Prop
def CallD (K : PySem.W.Frag) (G : Gh) (r : List V → Hp → VK → Prop) (f : OpA) : Prop := ∀ tmp F env fp σ H ds vs Qd (Q : VK), SR K G tmp F σ H env fp → Lks K F H ds vs → f ds Qd →
  (∀ rr z H' F', Ext F H F' H' → SR K G tmp F' σ H' env fp → RV K G tmp F' σ H' env fp z rr → Qd rr → Q z H') → r vs H Q
def wCB (f : OpA) (wr : WA) : WE := fun env Q => wr env fun rs env1 => match pks env1 rs with
  | some ds => f ds fun r => Q r env1
  | none => False
section
variable {X : Cx} {G : Gh} {e o b value : Expr} {es : List Expr} {n : Nat} {we wo wi wa wb : WE} {wr : WA} {x : Str} {p pos pos' apos cpos : Pos} {f : OpA} {r : List V → Hp → VK → Prop} {id T : String}
theorem lift_CB {K : PySem.W.Frag} {σ : St} {H : Hp} {Q : VK} (hf : CallD K G r f) (h : lift K G (wCB f wr) σ H Q) : tCB r (liftA K G n wr) σ H Q := by
  obtain ⟨tmp, F, env, fp, Qd, S, h, k⟩ := h
  refine ⟨tmp, F, env, fp, _, S, h, fun rs env1 vs H1 F1 fp1 hl e1 S1 r1 h1 => ?_⟩
  split at h1
  · rename_i ds hp
    exact hf _ _ _ _ _ _ _ _ _ _ S1 (Lks.of_pks S1 r1 hp) h1 fun rr z H' F' e2 S2 r2 q => k _ _ _ _ _ _ (e1.trans e2) S2 r2 q
  · exact h1.elim
theorem de_callB (hc : CallR X (.builtin id) r) (hf : CallD X.K G r f) (hg : Gl X x) (hm : X.mg x = none) (hv : bootBuiltins x = some (.builtin id)) (ha : DA X G (e :: es) n wr) (hn : x ≠ "__name__" := by decide) (hdb : (x == ("__debug__" : Str)) = false := by decide)
    (he : starEach (e :: es) X.env = (false, eval e X.env) :: starEach es X.env := by rfl) (hpl : (backTo pos (starEach es X.env)).any (·.1) = false := by rfl) : DE X G (.Call (.Name x p) (e :: es) [] pos) (wCB f wr) :=
  PE.imp (pe_callB hc hg hm hv ha hn hdb he hpl) fun _ _ _ h => lift_CB hf h
theorem de_callTy (hc : CallR X (.type T) r) (hf : CallD X.K G r f) (hg : Gl X x) (hm : X.mg x = none) (hv : bootBuiltins x = some (.type T)) (ha : DA X G (e :: es) n wr) (hn : x ≠ "__name__" := by decide) (hdb : (x == ("__debug__" : Str)) = false := by decide)
    (he : starEach (e :: es) X.env = (false, eval e X.env) :: starEach es X.env := by rfl) (hpl : (backTo pos (starEach es X.env)).any (·.1) = false := by rfl) : DE X G (.Call (.Name x p) (e :: es) [] pos) (wCB f wr) :=
  PE.imp (pe_callTy hc hg hm hv ha hn hdb he hpl) fun _ _ _ h => lift_CB hf h
end
section
variable {K : PySem.W.Frag} {G : Gh} {tmp : List (Addr × HO)} {F F' : Addr → Prop} {σ σ' : St} {H H' : Hp} {env env' : EnvD} {fp fp' : Nat → List Addr}
theorem CallD.or {r r' : List V → Hp → VK → Prop} {f f' g : OpA} (h : CallD K G r f) (h' : CallD K G r' f') (i : ∀ ds Q, g ds Q → f ds Q ∨ f' ds Q) : CallD K G (fun xs H Q => r xs H Q ∨ r' xs H Q) g := by
  intro tmp F env fp σ H ds vs Qd Q S l hg k
  rcases i _ _ hg with z | z
  · exact .inl (h _ _ _ _ _ _ _ _ _ _ S l z k)
  · exact .inr (h' _ _ _ _ _ _ _ _ _ _ S l z k)
theorem Lks.one {d : D} {vs : List V} (l : Lks K F H [d] vs) : ∃ v, vs = [v] ∧ Lk K F H d v := by
  cases l with
  | cons h t => cases t; exact ⟨_, rfl, h⟩
theorem Lks.two {d e : D} {vs : List V} (l : Lks K F H [d, e] vs) : ∃ v u, vs = [v, u] ∧ Lk K F H d v ∧ Lk K F H e u := by
  cases l with
  | cons h t =>
    cases t with
    | cons h2 t => cases t; exact ⟨_, _, rfl, h, h2⟩
end
/-! ### len -/
def lenD : D → Option Nat
  | .lst xs => some xs.length
  | .tup xs => some xs.length
  | .dct xs => some xs.length
  | .str x => if x.length ≤ sizeLine then some x.length else none
  | _ => none
def fLen : OpA := fun ds Q => match ds with
  | [d] => (match lenD d with
    | some n => Q (.sh (.int n))
    | none => False)
  | _ => False
def rLenA (K : PySem.W.Frag) : List V → Hp → VK → Prop := fun xs H Q => (∃ x n, xs = [x] ∧ LenV K x H n ∧ Q (.int n) H) ∨ ∃ a kvs, xs = [V.ref a] ∧ Rd H a (.dK kvs) ∧ Q (.int kvs.length) H
section
variable {K : PySem.W.Frag} {G : Gh}
theorem call_lenRd {X : Cx} : CallR X (.builtin "len") (fun xs H Q => ∃ a kvs, xs = [V.ref a] ∧ Rd H a (.dK kvs) ∧ Q (.int kvs.length) H) := by
  intro pins s σ H xs us Q I r h
  obtain ⟨a, kvs, rfl, ha, q⟩ := h
  obtain ⟨u, rfl, ru⟩ := vals1 r
  cases ru
  exact d_len I ha fun t s' I' => ⟨.int kvs.length, H, I', ⟨t, rfl⟩, q⟩
theorem cr_len {X : Cx} : CallR X (.builtin "len") (rLenA X.K) := CallR.or call_len call_lenRd
theorem cd_len : CallD K G (rLenA K) fLen := by
  intro tmp F env fp σ H ds vs Qd Q S l h k
  unfold fLen at h
  split at h
  · rename_i d
    obtain ⟨v, rfl, l1⟩ := l.one
    split at h
    · rename_i n hn
      have q := k (.sh (.int n)) (.int n) _ _ Ext.refl S .int h
      cases d with
      | lst xs =>
        obtain ⟨a, us, rfl, h1, h2⟩ := l1.lst
        cases hn
        exact .inl ⟨_, _, rfl, .inl ⟨us, .of h1, h2.length⟩, q⟩
      | tup xs =>
        obtain ⟨a, us, rfl, h1, h2⟩ := l1.tup
        cases hn
        exact .inl ⟨_, _, rfl, .inr ⟨us, h1, h2.length⟩, q⟩
      | dct kvs =>
        obtain ⟨a, us, rfl, h1, h2⟩ := l1.dct
        cases hn
        exact .inr ⟨a, us, rfl, h1, by rw [← h2.length]; exact q⟩
      | str y =>
        rw [l1.str]
        unfold lenD at hn
        dsimp only at hn
        split at hn
        · rename_i hz
          cases hn
          exact .inl ⟨_, _, rfl, ⟨hz, rfl⟩, q⟩
        · cases hn
      | _ => cases hn
    · exact h.elim
  · exact h.elim
/-! ### numbers -/
def fInt1 (g : Int → D) : OpA := fun ds Q => match ds with
  | [.int i] => Q (.sh (g i))
  | _ => False
theorem cd_int : CallD K G (fun xs H Q => (∃ i, xs = [.int i] ∧ Q (.int i) H) ∨ ∃ k, xs = [.bl k] ∧ Q (.int (if k then 1 else 0)) H) (fInt1 .int) := by
  intro tmp F env fp σ H ds vs Qd Q S l h k
  unfold fInt1 at h
  split at h
  · rename_i i
    obtain ⟨v, rfl, l1⟩ := l.one
    rw [l1.int]
    exact .inl ⟨i, rfl, k (.sh (.int i)) _ _ _ Ext.refl S .int h⟩
  · exact h.elim
theorem cd_abs : CallD K G (fun xs H Q => ∃ i, xs = [.int i] ∧ Q (.int (if i < 0 then -i else i)) H) (fInt1 fun i => .int (if i < 0 then -i else i)) := by
  intro tmp F env fp σ H ds vs Qd Q S l h k
  unfold fInt1 at h
  split at h
  · rename_i i
    obtain ⟨v, rfl, l1⟩ := l.one
    rw [l1.int]
    exact ⟨i, rfl, k (.sh (.int _)) _ _ _ Ext.refl S .int h⟩
  · exact h.elim
def fInt2 (g : Int → Int → D) : OpA := fun ds Q => match ds with
  | [.int i, .int j] => Q (.sh (g i j))
  | _ => False
theorem cd_int2 {g : Int → Int → V} {gd : Int → Int → D} (hg : ∀ i j, plainV (gd i j) = some (g i j)) : CallD K G (fun xs H Q => ∃ i j, xs = [.int i, .int j] ∧ Q (g i j) H) (fInt2 gd) := by
  intro tmp F env fp σ H ds vs Qd Q S l h k
  unfold fInt2 at h
  split at h
  · rename_i i j
    obtain ⟨v, u, rfl, l1, l2⟩ := l.two
    rw [l1.int, l2.int]
    exact ⟨i, j, rfl, k (.sh (gd i j)) _ _ _ Ext.refl S (plainV_dat (hg i j)) h⟩
  · exact h.elim
def blsD : List D → Option (List Bool)
  | [] => some []
  | .bl b :: ds => (blsD ds).map (b :: ·)
  | _ => none
def intsD : List D → Option (List Int)
  | [] => some []
  | .int b :: ds => (intsD ds).map (b :: ·)
  | _ => none
def strsD : List D → Option (List Str)
  | [] => some []
  | .str b :: ds => (strsD ds).map (b :: ·)
  | _ => none
section
variable {F : Addr → Prop} {H : Hp}
theorem bls_dat : ∀ {ds : List D} {vs : List V} {bs : List Bool}, Dats K F H ds vs → blsD ds = some bs → vs = bs.map V.bl
  | _, _, _, .nil, h => by cases h; rfl
  | _, _, _, .cons (d := d) q t, h => by
    cases q <;> first | cases h | skip
    rename_i ds vs b
    have h : (blsD ds).map (b :: ·) = some _ := h
    obtain ⟨bs', h1, rfl⟩ := Option.map_eq_some_iff.mp h
    rw [bls_dat t h1]; rfl
theorem ints_dat : ∀ {ds : List D} {vs : List V} {bs : List Int}, Dats K F H ds vs → intsD ds = some bs → vs = bs.map V.int
  | _, _, _, .nil, h => by cases h; rfl
  | _, _, _, .cons (d := d) q t, h => by
    cases q <;> first | cases h | skip
    rename_i ds vs b
    have h : (intsD ds).map (b :: ·) = some _ := h
    obtain ⟨bs', h1, rfl⟩ := Option.map_eq_some_iff.mp h
    rw [ints_dat t h1]; rfl
theorem strs_dat : ∀ {ds : List D} {vs : List V} {bs : List Str}, Dats K F H ds vs → strsD ds = some bs → vs = bs.map V.str
  | _, _, _, .nil, h => by cases h; rfl
  | _, _, _, .cons (d := d) q t, h => by
    cases q <;> first | cases h | skip
    rename_i ds vs b
    have h : (strsD ds).map (b :: ·) = some _ := h
    obtain ⟨bs', h1, rfl⟩ := Option.map_eq_some_iff.mp h
    rw [strs_dat t h1]; rfl
theorem of_strs : ∀ (ys : List Str), Dats K F H (ys.map D.str) (ys.map V.str)
  | [] => .nil
  | _ :: ys => .cons .str (of_strs ys)
theorem of_ints : ∀ (ys : List Int), Dats K F H (ys.map D.int) (ys.map V.int)
  | [] => .nil
  | _ :: ys => .cons .int (of_ints ys)
end
theorem blsD_map : ∀ bs : List Bool, blsD (bs.map D.bl) = some bs
  | [] => rfl
  | b :: bs => by show (blsD (bs.map D.bl)).map (b :: ·) = _; rw [blsD_map bs]; rfl
theorem intsD_map : ∀ bs : List Int, intsD (bs.map D.int) = some bs
  | [] => rfl
  | b :: bs => by show (intsD (bs.map D.int)).map (b :: ·) = _; rw [intsD_map bs]; rfl
theorem strsD_map : ∀ bs : List Str, strsD (bs.map D.str) = some bs
  | [] => rfl
  | b :: bs => by show (strsD (bs.map D.str)).map (b :: ·) = _; rw [strsD_map bs]; rfl
def fAll : OpA := fun ds Q => match ds with
  | [.lst xs] => (match blsD xs with
    | some bs => Q (.sh (.bl (bs.all id)))
    | none => False)
  | _ => False
def fAny : OpA := fun ds Q => match ds with
  | [.lst xs] => (match blsD xs with
    | some bs => Q (.sh (.bl (bs.any id)))
    | none => False)
  | _ => False
theorem cd_all : CallD K G (rAll K) fAll := by
  intro tmp F env fp σ H ds vs Qd Q S l h k
  unfold fAll at h
  split at h
  · rename_i xs
    obtain ⟨v, rfl, l1⟩ := l.one
    split at h
    · rename_i bs hb
      obtain ⟨a, us, rfl, h1, h2⟩ := l1.lst
      rw [bls_dat h2 hb] at h1
      exact ⟨a, bs, rfl, .of h1, k (.sh (.bl _)) _ _ _ Ext.refl S .bl h⟩
    · exact h.elim
  · exact h.elim
theorem cd_any : CallD K G (rAny K) fAny := by
  intro tmp F env fp σ H ds vs Qd Q S l h k
  unfold fAny at h
  split at h
  · rename_i xs
    obtain ⟨v, rfl, l1⟩ := l.one
    split at h
    · rename_i bs hb
      obtain ⟨a, us, rfl, h1, h2⟩ := l1.lst
      rw [bls_dat h2 hb] at h1
      exact ⟨a, bs, rfl, .of h1, k (.sh (.bl _)) _ _ _ Ext.refl S .bl h⟩
    · exact h.elim
  · exact h.elim
/-! ### list(x), tuple(x), dict(x), sorted(x) -/
def keyD : Key → D
  | .inl i => .int i
  | .inr x => .str x
def fList : OpA := fun ds Q => match ds with
  | [.lst xs] => Q (.fr (.lst xs))
  | [.tup xs] => Q (.fr (.lst xs))
  | [.dct kvs] => Q (.fr (.lst (kvs.map fun kv => keyD kv.1)))
  | _ => False
def fTuple : OpA := fun ds Q => match ds with
  | [.lst xs] => Q (.sh (.tup xs))
  | [.tup xs] => Q (.sh (.tup xs))
  | _ => False
def rListA (K : PySem.W.Frag) : List V → Hp → VK → Prop := fun xs H Q => (∃ p ys, xs = [.ref p] ∧ (SqL K H p ys ∨ SqT K H p ys) ∧ ∀ l, H l = none → Q (.ref l) (upd H l (.lst ys))) ∨
  ∃ (a : Addr) (kvs : List (Key × V)), xs = [.ref a] ∧ Rd H a (.dK kvs) ∧ ∀ p, H p = none → Q (.ref p) (upd H p (.lst (kvs.map fun kv => kV kv.1)))
theorem cr_list {X : Cx} (hc : X.calm = true) : CallR X (.type "list") (rListA X.K) := CallR.or call_list_of (call_listD hc)
theorem keys_dat {F : Addr → Prop} {H : Hp} : ∀ {ds : List (Key × D)} {vs : List (Key × V)}, DatK K F H ds vs → Dats K F H (ds.map fun kv => keyD kv.1) (vs.map fun kv => kV kv.1)
  | _, _, .nil => .nil
  | _, _, .cons (k := k) _ t => .cons (by cases k <;> first | exact .int | exact .str) (keys_dat t)
theorem cd_list : CallD K G (rListA K) fList := by
  intro tmp F env fp σ H ds vs Qd Q S l h k
  unfold fList at h
  split at h
  · rename_i xs
    obtain ⟨v, rfl, l1⟩ := l.one
    obtain ⟨a, us, rfl, h1, h2⟩ := l1.lst
    refine .inl ⟨a, us, rfl, .inl (.of h1), fun p hp => ?_⟩
    obtain ⟨S3, e3, r3⟩ := S.newFr hp (o := .lst us) (d := .lst xs) ⟨_, upd_same, h2.mono (Ext.upd (S.newF hp))⟩
    exact k _ _ _ _ e3 S3 r3 h
  · rename_i xs
    obtain ⟨v, rfl, l1⟩ := l.one
    obtain ⟨a, us, rfl, h1, h2⟩ := l1.tup
    refine .inl ⟨a, us, rfl, .inr h1, fun p hp => ?_⟩
    obtain ⟨S3, e3, r3⟩ := S.newFr hp (o := .lst us) (d := .lst xs) ⟨_, upd_same, h2.mono (Ext.upd (S.newF hp))⟩
    exact k _ _ _ _ e3 S3 r3 h
  · rename_i kvs
    obtain ⟨v, rfl, l1⟩ := l.one
    obtain ⟨a, us, rfl, h1, h2⟩ := l1.dct
    refine .inr ⟨a, us, rfl, h1, fun p hp => ?_⟩
    obtain ⟨S3, e3, r3⟩ := S.newFr hp (o := .lst (us.map fun kv => kV kv.1)) (d := .lst (kvs.map fun kv => keyD kv.1)) ⟨_, upd_same, (keys_dat h2).mono (Ext.upd (S.newF hp))⟩
    exact k _ _ _ _ e3 S3 r3 h
  · exact h.elim
theorem cd_tuple : CallD K G (fun xs H Q => ∃ p ys, xs = [.ref p] ∧ ((SqL K H p ys ∧ ∀ l, H l = none → Q (.ref l) (upd H l (.tup ys))) ∨ (SqT K H p ys ∧ Q (.ref p) H))) fTuple := by
  intro tmp F env fp σ H ds vs Qd Q S l h k
  unfold fTuple at h
  split at h
  · rename_i xs
    obtain ⟨v, rfl, l1⟩ := l.one
    obtain ⟨a, us, rfl, h1, h2⟩ := l1.lst
    refine ⟨a, us, rfl, .inl ⟨.of h1, fun p hp => ?_⟩⟩
    obtain ⟨S3, e3⟩ := S.newSh hp (o := .tup us) rfl
    exact k (.sh (.tup xs)) _ _ _ e3 S3 (Dat.tup (.inr rfl) upd_same (h2.mono e3)) h
  · rename_i xs
    obtain ⟨v, rfl, l1⟩ := l.one
    have ld : Dat K F H (.tup xs) v := by rcases l1 with z | ⟨_, _, z⟩; exact z; exact z.elim
    obtain ⟨a, us, rfl, h1, h2⟩ := l1.tup
    exact ⟨a, us, rfl, .inr ⟨h1, k (.sh (.tup xs)) _ _ _ Ext.refl S ld h⟩⟩
  · exact h.elim
def keysS : List (Key × D) → Option (List Str)
  | [] => some []
  | (.inr k, _) :: r => (keysS r).map (k :: ·)
  | _ => none
theorem keysS_map : ∀ {kvs : List (Key × D)} {ks : List Str}, keysS kvs = some ks → kvs.map (·.1) = ks.map Sum.inr
  | [], _, h => by cases h; rfl
  | (.inr k, _) :: r, _, h => by
    have h : (keysS r).map (k :: ·) = some _ := h
    obtain ⟨bs', h1, rfl⟩ := Option.map_eq_some_iff.mp h
    simp [keysS_map h1]
  | (.inl _, _) :: r, _, h => by cases h
def sortQ (xs : List Str) (Q : R → Prop) : Prop := xs.length < 64 ∧ ∀ ys : List Str, ys.Perm xs → sortedS ys = true → Q (.fr (.lst (ys.map D.str)))
def sortQI (xs : List Int) (Q : R → Prop) : Prop := xs.length < 64 ∧ ∀ ys : List Int, ys.Perm xs → ys.Pairwise (· ≤ ·) → Q (.fr (.lst (ys.map D.int)))
def fSorted : OpA := fun ds Q => match ds with
  | [.lst xs] => (∃ zs, strsD xs = some zs ∧ sortQ zs Q) ∨ ∃ zs, intsD xs = some zs ∧ sortQI zs Q
  | [.dct kvs] => ∃ zs, keysS kvs = some zs ∧ sortQ zs Q
  | _ => False
def rSortA (K : PySem.W.Frag) : List V → Hp → VK → Prop := fun xs H Q => rSorted K xs H Q ∨ rSortedS K xs H Q ∨ ∃ (a : Addr) (kvs : List (Key × V)) (ks : List Str), xs = [.ref a] ∧ Rd H a (.dK kvs) ∧ kvs.map (·.1) = ks.map Sum.inr ∧ ks.length < 64 ∧
    ∀ ys p, ys.Perm ks → sortedS ys = true → H p = none → Q (.ref p) (upd H p (.lst (ys.map V.str)))
theorem cr_sortA {X : Cx} (hc : X.calm = true) : CallR X (.builtin "sorted") (rSortA X.K) := CallR.or cr_sorted (CallR.or cr_sortedS (call_sortedD hc))
theorem cd_sorted : CallD K G (rSortA K) fSorted := by
  intro tmp F env fp σ H ds vs Qd Q S l h k
  unfold fSorted at h
  split at h
  · rename_i xs
    obtain ⟨v, rfl, l1⟩ := l.one
    obtain ⟨a, us, rfl, h1, h2⟩ := l1.lst
    rcases h with ⟨zs, h3, h4, h5⟩ | ⟨zs, h3, h4, h5⟩
    · rw [strs_dat h2 h3] at h1
      refine .inr (.inl ⟨a, zs, rfl, .of h1, h4, fun ys p g1 g2 hp => ?_⟩)
      obtain ⟨S3, e3, r3⟩ := S.newFr hp (o := .lst (ys.map V.str)) (d := .lst (ys.map D.str)) ⟨_, upd_same, of_strs ys⟩
      exact k _ _ _ _ e3 S3 r3 (h5 ys g1 g2)
    · rw [ints_dat h2 h3] at h1
      refine .inl ⟨a, zs, rfl, .of h1, h4, fun ys p g1 g2 hp => ?_⟩
      obtain ⟨S3, e3, r3⟩ := S.newFr hp (o := .lst (ys.map V.int)) (d := .lst (ys.map D.int)) ⟨_, upd_same, of_ints ys⟩
      exact k _ _ _ _ e3 S3 r3 (h5 ys g1 g2)
  · rename_i kvs
    obtain ⟨v, rfl, l1⟩ := l.one
    obtain ⟨a, us, rfl, h1, h2⟩ := l1.dct
    obtain ⟨zs, h3, h4, h5⟩ := h
    refine .inr (.inr ⟨a, us, zs, rfl, h1, h2.keys.trans (keysS_map h3), h4, fun ys p g1 g2 hp => ?_⟩)
    obtain ⟨S3, e3, r3⟩ := S.newFr hp (o := .lst (ys.map V.str)) (d := .lst (ys.map D.str)) ⟨_, upd_same, of_strs ys⟩
    exact k _ _ _ _ e3 S3 r3 (h5 ys g1 g2)
  · exact h.elim
def mergeD (kvs more : List (Key × D)) : List (Key × D) := more.foldl (fun acc kv => putD acc kv.1 kv.2) kvs
theorem DatK.merge {F : Addr → Prop} {H : Hp} : ∀ {more : List (Key × D)} {mv : List (Key × V)} {kvs : List (Key × D)} {vs : List (Key × V)}, DatK K F H more mv → DatK K F H kvs vs → DatK K F H (mergeD kvs more) (mergeK vs mv)
  | _, _, _, _, .nil, r => r
  | (k, d) :: more, (_, v) :: mv, kvs, vs, .cons h t, r => (show DatK K F H (mergeD (putD kvs k d) more) (mergeK (putK vs k v) mv) from DatK.merge t (r.put k h))
def pairsD : List D → Option (List (Key × D))
  | [] => some []
  | .tup [k, d] :: r => (kD k).bind fun k => (pairsD r).map ((k, d) :: ·)
  | _ => none
theorem pairs_dat {F : Addr → Prop} {H : Hp} : ∀ {ds : List D} {vs : List V} {kvs : List (Key × D)}, Dats K F H ds vs → pairsD ds = some kvs →
    ∃ (ps : List Addr) (ks : List (Key × V)), vs = ps.map V.ref ∧ Paired (fun p kv => SqT K H p [kV kv.1, kv.2]) ps ks ∧ DatK K F H kvs ks
  | [], _, _, .nil, h => by cases h; exact ⟨[], [], rfl, .nil, .nil⟩
  | d :: ds, _, kvs, .cons q t, h => by
    unfold pairsD at h
    split at h
    · cases h
      rename_i e
      cases e
    · rename_i k d' r e
      cases e
      obtain ⟨kk, h1, h2⟩ := Option.bind_eq_some_iff.mp h
      obtain ⟨kv', h3, rfl⟩ := Option.map_eq_some_iff.mp h2
      obtain ⟨ps, ks, rfl, h4, h5⟩ := pairs_dat t h3
      obtain ⟨a, us, rfl, h6, h7⟩ := Lk.tup (Or.inl q)
      cases h7 with
      | cons g1 g2 =>
        cases g2 with
        | cons g3 g4 =>
          cases g4
          have e := kD_lk (Or.inl g1) h1
          subst e
          exact ⟨a :: ps, (kk, _) :: ks, rfl, .cons h6 h4, .cons g3 h5⟩
    · cases h
def fDict : OpA := fun ds Q => match ds with
  | [.dct kvs] => Q (.fr (.dct kvs))
  | [.lst xs] => (match pairsD xs with
    | some kvs => Q (.fr (.dct (mergeD [] kvs)))
    | none => False)
  | _ => False
def rDictA (K : PySem.W.Frag) : List V → Hp → VK → Prop := fun xs H Q => (∃ (a : Addr) (kvs : List (Key × V)), xs = [.ref a] ∧ Rd H a (.dK kvs) ∧ ∀ p, H p = none → Q (.ref p) (upd H p (.dK kvs))) ∨
  ∃ (a : Addr) (ps : List Addr) (kvs : List (Key × V)), xs = [.ref a] ∧ SqL K H a (ps.map V.ref) ∧ Paired (fun p kv => SqT K H p [kV kv.1, kv.2]) ps kvs ∧ ∀ p, H p = none → Q (.ref p) (upd H p (.dK (mergeK [] kvs)))
theorem cr_dict {X : Cx} (hc : X.calm = true) : CallR X (.type "dict") (rDictA X.K) := CallR.or call_dictD (call_dictP hc)
theorem cd_dict : CallD K G (rDictA K) fDict := by
  intro tmp F env fp σ H ds vs Qd Q S l h k
  unfold fDict at h
  split at h
  · rename_i kvs
    obtain ⟨v, rfl, l1⟩ := l.one
    obtain ⟨a, us, rfl, h1, h2⟩ := l1.dct
    refine .inl ⟨a, us, rfl, h1, fun p hp => ?_⟩
    obtain ⟨S3, e3, r3⟩ := S.newFr hp (o := .dK us) (d := .dct kvs) ⟨_, upd_same, h2.mono (Ext.upd (S.newF hp))⟩
    exact k _ _ _ _ e3 S3 r3 h
  · rename_i xs
    obtain ⟨v, rfl, l1⟩ := l.one
    obtain ⟨a, us, rfl, h1, h2⟩ := l1.lst
    split at h
    · rename_i kvs hk
      obtain ⟨ps, ks, rfl, h4, h5⟩ := pairs_dat h2 hk
      refine .inr ⟨a, ps, ks, rfl, .of h1, h4, fun p hp => ?_⟩
      obtain ⟨S3, e3, r3⟩ := S.newFr hp (o := .dK (mergeK [] ks)) (d := .dct (mergeD [] kvs)) ⟨_, upd_same, (h5.merge .nil).mono (Ext.upd (S.newF hp))⟩
      exact k _ _ _ _ e3 S3 r3 h
    · exact h.elim
  · exact h.elim
end
end DL
namespace DL
open PySem PySem.Spec PyProof.Rows L2
open C8 (InsC)
/-! ### isinstance -/
def kindD : D → String
  | .non => "NoneType"
  | .bl _ => "bool"
  | .int _ => "int"
  | .str _ => "str"
  | .lst _ => "list"
  | .tup _ => "tuple"
  | .dct _ => "dict"
  | .ins _ _ => ""
  | .exc _ _ => ""
def tyD (K : PySem.W.Frag) : D → Value
  | .ins c _ => .ref (He.ga K c)
  | d => .type (kindD d)
def kinds : List String := ["NoneType", "bool", "int", "str", "list", "tuple", "dict"]
def isA (tab : String → Bool) (own : Str → Option Bool) : D → Option Bool
  | .ins c _ => own c
  | .exc _ _ => none
  | d => some (tab (kindD d))
structure IsF (K : PySem.W.Frag) (us : List Value) (tab : String → Bool) (own : Str → Option Bool) : Prop where
  b : ∀ k ∈ kinds, PySem.W.kitAny K (.type k) us = some (tab k)
  o : ∀ c r, own c = some r → InsC K (He.ga K c) ∧ PySem.W.kitAny K (.ref (He.ga K c)) us = some r
theorem kit_one {K : PySem.W.Frag} {t u : Value} {b : Bool} (h : PySem.W.kitAny K t [u] = some b) : PySem.W.kitOne K t u = some b := by
  unfold PySem.W.kitAny at h
  split at h
  · rename_i e; rw [e]; exact h
  · rename_i e; rw [e]; exact h
  · cases h
section
variable {K : PySem.W.Frag} {G : Gh} {tmp : List (Addr × HO)} {F F' : Addr → Prop} {σ σ' : St} {H H' : Hp} {env env' : EnvD} {fp fp' : Nat → List Addr}
theorem tyX_lk {d : D} {v : V} (l : Lk K F H d v) (hc : ∀ c fs, d = .ins c fs → InsC K (He.ga K c)) (hx : ∀ c fs, d ≠ .exc c fs := by intro _ _ z; cases z) : TyX K H v (tyD K d) := by
  cases d with
  | non => rw [l.non]; exact .base .non
  | bl b => rw [l.bl]; exact .base (.bl b)
  | int i => rw [l.int]; exact .base (.int i)
  | str x => rw [l.str]; exact .base (.str x)
  | lst xs => obtain ⟨a, us, rfl, h1, h2⟩ := l.lst; exact .base (.lst h1)
  | tup xs =>
    rcases l with l | ⟨_, _, z⟩
    · cases l with
      | tup f h r => exact .base (.tup h)
      | tupK hk hc hd hz rv r => exact .kTuple hk hc
    · exact z.elim
  | dct kvs =>
    obtain ⟨a, us, rfl, h1, h2⟩ := l.dct
    rcases h1 with h1 | ⟨o, h1⟩
    · exact .base (.dK h1)
    · exact .fDict h1
  | ins c fs =>
    obtain ⟨a, dx, gs, rfl, h1, h2⟩ := l.ins
    have q := hc c fs rfl
    exact .base (.ins h1 q.cl q.ha q.hn q.htk q.hm)
  | exc c fs => exact absurd rfl (hx c fs)
theorem IsF.get {us : List Value} {tab : String → Bool} {own : Str → Option Bool} (f : IsF K us tab own) {d : D} {b : Bool} (h : isA tab own d = some b) {v : V} (l : Lk K F H d v) : TyX K H v (tyD K d) ∧ PySem.W.kitAny K (tyD K d) us = some b := by
  cases d with
  | ins c fs => exact ⟨tyX_lk l fun c' fs' e => by cases e; exact (f.o c b h).1, (f.o c b h).2⟩
  | exc c fs => cases h
  | non => cases h; exact ⟨tyX_lk l fun _ _ e => (nomatch e), f.b (kindD .non) (by simp [kinds, kindD])⟩
  | bl _ => cases h; exact ⟨tyX_lk l fun _ _ e => (nomatch e), f.b (kindD (.bl true)) (by simp [kinds, kindD])⟩
  | int _ => cases h; exact ⟨tyX_lk l fun _ _ e => (nomatch e), f.b (kindD (.int 0)) (by simp [kinds, kindD])⟩
  | str _ => cases h; exact ⟨tyX_lk l fun _ _ e => (nomatch e), f.b (kindD (.str Str.empty)) (by simp [kinds, kindD])⟩
  | lst _ => cases h; exact ⟨tyX_lk l fun _ _ e => (nomatch e), f.b (kindD (.lst [])) (by simp [kinds, kindD])⟩
  | tup _ => cases h; exact ⟨tyX_lk l fun _ _ e => (nomatch e), f.b (kindD (.tup [])) (by simp [kinds, kindD])⟩
  | dct _ => cases h; exact ⟨tyX_lk l fun _ _ e => (nomatch e), f.b (kindD (.dct [])) (by simp [kinds, kindD])⟩
end
def wIsi (ia : D → Option Bool) (we : WE) : WE := fun env Q => we env fun r env1 => match (pk env1 r).bind ia with
  | some b => Q (.sh (.bl b)) env1
  | none => False
section
variable {X : Cx} {G : Gh} {e o b value ce : Expr} {es : List Expr} {n : Nat} {we wo wi wa wb wk wd : WE} {wr : WA} {x : Str} {p pos pos' apos cpos : Pos} {id T : String} {tab : String → Bool} {own : Str → Option Bool}
theorem de_isi {c : V} {u : Value} (f : IsF X.K [u] tab own) (hu : ClsV c u) (hg : Gl X "isinstance") (hm : X.mg "isinstance" = none) (he : DE X G e we) (hc : PE X ce (tC c))
    (h1 : starEach [e, ce] X.env = (false, eval e X.env) :: starEach [ce] X.env := by rfl) (h2 : starEach [ce] X.env = (false, eval ce X.env) :: starEach [] X.env := by rfl) (hpl : (backTo pos (starEach [ce] X.env)).any (·.1) = false := by rfl) :
    DE X G (.Call (.Name "isinstance" p) [e, ce] [] pos) (wIsi (isA tab own) we) := by
  refine PE.imp (pe_callB call_isi hg hm (by decide +kernel) (pa_cons he (pa_cons hc pa_nil h2) h1) (by decide) (by decide) h1 hpl) fun σ H Q h => ?_
  obtain ⟨tmp, F, env, fp, Qd, S, h, k⟩ := h
  refine lift1 S h fun r env1 v H1 F1 fp1 e1 S1 r1 h1 => ?_
  split at h1
  · rename_i b hb
    obtain ⟨d, h2, h3⟩ := Option.bind_eq_some_iff.mp hb
    obtain ⟨g1, g2⟩ := f.get h3 (Lk.of_pk S1 r1 h2)
    exact ⟨v, c, _, u, b, rfl, hu, g1, kit_one g2, k (.sh (.bl b)) _ _ _ _ _ e1 S1 .bl h1⟩
  · exact h1.elim
theorem de_isiT {c1 c2 : V} {u1 u2 : Value} (f : IsF X.K [u1, u2] tab own) (hu1 : ClsV c1 u1) (hu2 : ClsV c2 u2) (hg : Gl X "isinstance") (hm : X.mg "isinstance" = none) (he : DE X G e we) (hc : PE X ce (tTup (tCons (tC c1) (tCons (tC c2) tNil))))
    (h1 : starEach [e, ce] X.env = (false, eval e X.env) :: starEach [ce] X.env := by rfl) (h2 : starEach [ce] X.env = (false, eval ce X.env) :: starEach [] X.env := by rfl) (hpl : (backTo pos (starEach [ce] X.env)).any (·.1) = false := by rfl) :
    DE X G (.Call (.Name "isinstance" p) [e, ce] [] pos) (wIsi (isA tab own) we) := by
  refine PE.imp (pe_callB call_isiT hg hm (by decide +kernel) (pa_cons he (pa_cons hc pa_nil h2) h1) (by decide) (by decide) h1 hpl) fun σ H Q h => ?_
  obtain ⟨tmp, F, env, fp, Qd, S, h, k⟩ := h
  refine lift1 S h fun r env1 v H1 F1 fp1 e1 S1 r1 h1 => ?_
  split at h1
  · rename_i b hb
    obtain ⟨d, h2, h3⟩ := Option.bind_eq_some_iff.mp hb
    refine ⟨by rw [sizeLine_eq]; simp, fun p hp => ?_⟩
    have S2 := S1.alloc (o := .tup [c1, c2]) hp
    have e2 : Ext F1 H1 F1 (upd H1 p (.tup [c1, c2])) := Ext.upd (S1.newF hp)
    obtain ⟨g1, g2⟩ := f.get h3 (Lk.of_pk S2 (r1.mono (env' := env1) (fp' := fp1) e2) h2)
    exact ⟨v, p, [c1, c2], _, [u1, u2], b, rfl, upd_same, .cons hu1 (.cons hu2 .nil), g1, g2, k (.sh (.bl b)) _ _ _ _ _ (e1.trans e2) S2 .bl h1⟩
  · exact h1.elim
theorem dt_of (h : DE X G e we) (he : ∀ whole, isTrue e X.env whole = (do let v ← whole; standAt e.pos; holding [v] (truthy v)) := by intro _; rfl) : DT X G e (wBl we) := dt_val h he
/-! ### d.get(k, x), d.get(k) -/
def isDct (env : EnvD) (r : R) : Prop := ∃ kvs, pk env r = some (.dct kvs)
def wGet2 (wo wk wd : WE) : WE := fun env Q => wo env fun r env1 => isDct env1 r ∧ wk env1 fun rk env2 => wd env2 fun rd env3 => match pk env3 r, pk env3 rk, rd.hold with
  | some (.dct kvs), some kd, .sh d => (match kD kd with
    | some k => Q (.sh ((vD kvs k).getD d)) env3
    | none => False)
  | _, _, _ => False
def wGet1 (wo wk : WE) : WE := fun env Q => wo env fun r env1 => isDct env1 r ∧ wk env1 fun rk env3 => match pk env3 r, pk env3 rk with
  | some (.dct kvs), some kd => (match kD kd with
    | some k => Q (.sh ((vD kvs k).getD .non)) env3
    | none => False)
  | _, _ => False
theorem isDct_a {K : PySem.W.Frag} {tmp : List (Addr × HO)} {F : Addr → Prop} {σ : St} {H : Hp} {env : EnvD} {fp : Nat → List Addr} (S : SR K G tmp F σ H env fp) {v : V} {r : R} (h : RV K G tmp F σ H env fp v r.hold) (l : isDct env r) : ∃ a, v = .ref a ∧ IsD H a := by
  obtain ⟨xs, hx⟩ := l
  obtain ⟨a, vs, rfl, h1, r1⟩ := (Lk.of_pk S h hx).dct
  exact ⟨a, rfl, .inl ⟨vs, h1⟩⟩
theorem de_get2 (hu : X.A.units + 64 < cLine) (ho : DE X G o wo) (hk : DE X G e wk) (hd : DE X G b wd) (m : M2 X o "get" apos e b cpos := by exact ⟨rfl, rfl, rfl, rfl⟩) : DE X G (.Call (.Attribute o "get" apos) [e, b] [] cpos) (wGet2 wo wk wd) := by
  refine PE.imp (pe_dget2 (by omega) ho hk hd m) fun σ H Q h => ?_
  obtain ⟨tmp, F, env, fp, Qd, S, h, k⟩ := h
  refine lift1 S h fun r env1 v H1 F1 fp1 e1 S1 r1 h1 => ?_
  obtain ⟨a, ev, hD⟩ := isDct_a S1 r1 h1.1
  refine ⟨a, ev, hD, lift2 S1 h1.2 fun rk rd env3 y z H3 F3 fp3 e3 S3 rk3 rd3 h3 => ?_⟩
  have r3 := r1.mono (env' := env3) (fp' := fp3) e3
  split at h3
  · rename_i kvs kd d hp1 hp2 hp3
    split at h3
    · rename_i kk hkk
      obtain ⟨a', us, ev', h4, h5⟩ := (Lk.of_pk S3 r3 hp1).dct
      rw [ev] at ev'; cases ev'
      have ey := kD_lk (Lk.of_pk S3 rk3 hp2) hkk
      have rd3 : Dat X.K F3 H3 d z := by rw [hp3] at rd3; exact rd3
      refine ⟨_, .inl ⟨us, kk, h4, ey, rfl⟩, k (.sh ((vD kvs kk).getD d)) _ _ _ _ _ (e1.trans e3) S3 ?_ h3⟩
      rcases h5.val kk with ⟨g1, g2⟩ | ⟨d2, v2, g1, g2, g3⟩
      · rw [g1, g2]; exact rd3
      · rw [g1, g2]; exact g3
    · exact h3.elim
  · exact h3.elim
theorem de_get1 (hu : X.A.units + 64 < cLine) (ho : DE X G o wo) (hk : DE X G e wk) (m : M1 X o "get" apos e cpos := by exact ⟨rfl, rfl, rfl, rfl⟩) : DE X G (.Call (.Attribute o "get" apos) [e] [] cpos) (wGet1 wo wk) := by
  refine PE.imp (pe_dget1 (by omega) ho hk m) fun σ H Q h => ?_
  obtain ⟨tmp, F, env, fp, Qd, S, h, k⟩ := h
  refine lift1 S h fun r env1 v H1 F1 fp1 e1 S1 r1 h1 => ?_
  obtain ⟨a, ev, hD⟩ := isDct_a S1 r1 h1.1
  refine ⟨a, ev, hD, lift1 S1 h1.2 fun rk env3 y H3 F3 fp3 e3 S3 rk3 h3 => ?_⟩
  have r3 := r1.mono (env' := env3) (fp' := fp3) e3
  split at h3
  · rename_i kvs kd hp1 hp2
    split at h3
    · rename_i kk hkk
      obtain ⟨a', us, ev', h4, h5⟩ := (Lk.of_pk S3 r3 hp1).dct
      rw [ev] at ev'; cases ev'
      have ey := kD_lk (Lk.of_pk S3 rk3 hp2) hkk
      refine ⟨_, .inl ⟨us, kk, h4, ey, rfl⟩, k (.sh ((vD kvs kk).getD .non)) _ _ _ _ _ (e1.trans e3) S3 ?_ h3⟩
      rcases h5.val kk with ⟨g1, g2⟩ | ⟨d2, v2, g1, g2, g3⟩
      · rw [g1, g2]; exact .non
      · rw [g1, g2]; exact g3
    · exact h3.elim
  · exact h3.elim
/-! ### a property, a method without arguments -/
def wProp (c : Str) (sem : Sem) (ms : List Bool) (we : WE) (Ed : XD → EnvD → Prop) : WE := fun env Q => we env fun r env1 => (∃ fs, pk env1 r = some (.ins c fs)) ∧ wCall sem ms [] (fun env Q => Q [r.hold] env) Ed env1 Q
variable {k k' : Nat} {f g : Addr} {fd : FuncData} {ps : List Str} {sem : Sem} {E : XK} {Ed : XD → EnvD → Prop} {c m : Str} {ms : List Bool}
theorem prop_core {K : PySem.W.Frag} {tmp : List (Addr × HO)} {F : Addr → Prop} {σ : St} {H : Hp} {env : EnvD} {fp : Nat → List Addr} (S : SR K G tmp F σ H env fp) {r : R} {v : V} {Qd : R → EnvD → Prop} {Q : VK} (hlk : Link K G E Ed) (rv : RV K G tmp F σ H env fp v r.hold)
    (h : wCall sem ms [] (fun env Q => Q [r.hold] env) Ed env Qd) (k : ∀ r env' v H' F' fp', Ext F H F' H' → SR K G tmp F' σ H' env' fp' → RV K G tmp F' σ H' env' fp' v r → Qd r env' → Q v H') : spD K 1 sem [v] H Q E := by



  -- the same again, by hand: the argument is there
  obtain ⟨as, env2, F2, fp2, S2, e2, av, h3, h4, h5⟩ := S.fzm (ms := ms) (rs := [r.hold]) (vs := [v]) (RVs.cons (r := r) rv .nil) h
  have la : as.length = 1 := by have := av.length; simpa using this.symm
  have av' := av.app (ds := []) (ws := []) .nil
  refine call_core S2 (by simpa using av') (by simpa using la) (by simpa using h3) (by simpa using h4) hlk ?_ fun r env' v H' F' fp' e' S' r' q => k _ _ _ _ _ _ (e2.trans e') S' r' q
  simpa [la] using h5
theorem de_prop {pA : Addr} (hc : Cls X.K (He.ga X.K c)) (hp : PropOf X.K (He.ga X.K c) m pA g) (FN : FnOk X.prog X.w X.K X.mg X.base (L2.CX X.prog X.w) k g fd ps (spD X.K 1 sem)) (hr : Room (k + 1) X.A) (hb : Binds X.K fd ps [])
    (hx : Passes (L2.CX X.prog X.w) X.nox E) (hlk : Link X.K G E Ed) (he : DE X G e we) (hab : attributeBase e m X.env (eval e X.env) = eval e X.env := by rfl) : DE X G (.Attribute e m pos) (wProp c sem ms we Ed) := by
  refine PE.imp (pe_prop he hc hp FN hr hb .nil hx hab) fun σ H Q h => ?_
  obtain ⟨tmp, F, env, fp, Qd, S, h, k⟩ := h
  refine lift1 S h fun r env1 v H1 F1 fp1 e1 S1 r1 h1 => ?_
  obtain ⟨⟨fs, hp1⟩, h2⟩ := h1
  obtain ⟨a, dx, gs, rfl, h3, h4⟩ := (Lk.of_pk S1 r1 hp1).ins
  exact ⟨a, dx, gs, rfl, h3, prop_core S1 hlk r1 h2 fun r env' v H' F' fp' e' S' r' q => k _ _ _ _ _ _ (e1.trans e') S' r' q⟩
theorem de_meth0 {pl : PySem.Sem Bool} (hc : Cls X.K (He.ga X.K c)) (hm : Meth X.K (He.ga X.K c) m f) (FN : FnOk X.prog X.w X.K X.mg X.base (L2.CX X.prog X.w) k f fd ps (spD X.K 1 sem)) (hr : Room k X.A) (hb : Binds X.K fd ps []) (hx : Passes (L2.CX X.prog X.w) X E) (hlk : Link X.K G E Ed)
    (hno : ∀ d, d ∈ ([] : List D) → True) (he : DE X G o we)
    (ht : eval (.Call (.Attribute o m apos) [] [] pos) X.env = (do
      let ov ← eval o X.env
      standAt apos.atName
      let (f, first) ← holding [ov] (getMethod ov m pl)
      callWith pos f first (backTo pos (starEach [] X.env)) (backToKw pos (keywordEach [] X.env))) := by rfl) :
    DE X G (.Call (.Attribute o m apos) [] [] pos) (fun env Q => we env fun r env1 => (∃ fs, pk env1 r = some (.ins c fs) ∧ fs.lookup m = none) ∧ wCall sem ms [] (fun env Q => Q [r.hold] env) Ed env1 Q) := by
  refine PE.imp (pe_meth0 (pl := pl) he hc hm FN hr hb .nil hx ht) fun σ H Q h => ?_
  obtain ⟨tmp, F, env, fp, Qd, S, h, k⟩ := h
  refine lift1 S h fun r env1 v H1 F1 fp1 e1 S1 r1 h1 => ?_
  obtain ⟨⟨fs, hp1, hl⟩, h2⟩ := h1
  obtain ⟨a, dx, gs, rfl, h3, h4⟩ := (Lk.of_pk S1 r1 hp1).ins
  exact ⟨a, dx, gs, rfl, h3, h4.lookN hl, prop_core S1 hlk r1 h2 fun r env' v H' F' fp' e' S' r' q => k _ _ _ _ _ _ (e1.trans e') S' r' q⟩
end
end DL
namespace DL
open PySem PySem.Spec PyProof.Rows L2
/-! ### what is walked -/
abbrev WI := EnvD → (List D → EnvD → Prop) → Prop
def ItD (K : PySem.W.Frag) (G : Gh) (J : It) (ds : List D) (F : Addr → Prop) (H : Hp) : Prop := ∀ tmp F2 σ2 H2 env2 fp2, Ext F H F2 H2 → SR K G tmp F2 σ2 H2 env2 fp2 → ∀ i,
  (∀ d, ds[i]? = some d → J.go i H2 ∧ ∀ x H3, J.yld i H2 x H3 → ∃ F3, SR K G tmp F3 σ2 H3 env2 fp2 ∧ Ext F2 H2 F3 H3 ∧ Dat K F3 H3 d x) ∧ (ds.length ≤ i → J.stop i H2)
theorem ItD.later {K : PySem.W.Frag} {G : Gh} {J : It} {ds : List D} {F F' : Addr → Prop} {H H' : Hp} (h : ItD K G J ds F H) (e : Ext F H F' H') : ItD K G J ds F' H' := fun tmp F2 σ2 H2 env2 fp2 e2 => h tmp F2 σ2 H2 env2 fp2 (e.trans e2)
def liftI (K : PySem.W.Frag) (G : Gh) (wi : WI) : TI := fun σ H R => ∃ tmp F env fp Qd, SR K G tmp F σ H env fp ∧ wi env Qd ∧ ∀ ds env' H' F' fp' J, Ext F H F' H' → SR K G tmp F' σ H' env' fp' → ItD K G J ds F' H' → Qd ds env' → R J H'
abbrev DI (X : Cx) (G : Gh) (tg e : Expr) (wi : WI) : Prop := PI X tg e (liftI X.K G wi)
theorem PI.imp {X : Cx} {tg e : Expr} {t t' : TI} (h : PI X tg e t) (i : ∀ σ H R, t' σ H R → t σ H R) : PI X tg e t' := ⟨fun pins s σ H R I q => h.run pins s σ H R I (i σ H R q)⟩
/-- by the value: a list, a tuple, a text, a dict -/
def IterV (K : PySem.W.Frag) (x : V) (H : Hp) (R : It → Hp → Prop) : Prop := (∃ a xs, x = .ref a ∧ SqL K H a xs ∧ R (Itl K a) H) ∨ (∃ a xs, x = .ref a ∧ SqT K H a xs ∧ R (Itt K a) H) ∨ (∃ y, x = .str y ∧ R (Its y) H) ∨
  (∃ a kvs, x = .ref a ∧ H a = some (.dK kvs) ∧ ∀ o, R (Itk a o kvs) (upd H a (.frz o (.dK kvs)))) ∨ ∃ a o kvs, x = .ref a ∧ H a = some (.frz o (.dK kvs)) ∧ R (Itk a o kvs) H
theorem pi_any {X : Cx} {tg e : Expr} {te : TE} (he : PE X e te) : PI X tg e (fun σ H R => te σ H fun x H1 => IterV X.K x H1 R) := by
  have keys : ∀ {pins : List (Addr × Obj)} {σ : St} {H1 : Hp} {s1 : Shared} {R : It → Hp → Prop} {a : Addr} {o : Obj} {kvs : List (Key × V)}, Inv X pins σ H1 s1 → H1 a = some (.frz o (.dK kvs)) → R (Itk a o kvs) H1 → wpAny (model X.prog X.w) X.A (pyIter (.ref a)) (PIE X pins σ tg R) X.xe s1 := by
    intro pins σ H1 s1 R a o kvs I1 h q
    obtain ⟨g1, g2, g3, es, ep, vs, g4, g5, g6, g7⟩ := I1.frzK h
    exact iter_keys g1 g2 g3 g4 (pi_one (tk := s1.toks) I1 _ (turn_keys _ g4) ⟨_, Heap.get?_push_size _ rfl, rfl, by rw [g5] <;> rfl⟩ q)
  refine ⟨fun pins s σ H R I h => thn (he.run pins s σ H _ I h) fun v s1 ⟨x, H1, I1, r1, q1⟩ => ?_⟩
  rcases q1 with ⟨a, xs, rfl, hq, q⟩ | ⟨a, xs, rfl, hq, q⟩ | ⟨y, rfl, q⟩ | ⟨a, kvs, rfl, hd, q⟩ | ⟨a, o, kvs, rfl, hd, q⟩
  · cases r1
    obtain ⟨its, rv, p, _⟩ := I1.list hq
    exact wpAny_pyIter_list p.isList (pi_one (tk := s1.toks) I1 _ (turn_list a _) ⟨_, Heap.get?_push_size _ rfl, rfl, rfl⟩ q)
  · cases r1
    obtain ⟨its, rv, p, _⟩ := I1.tuple hq
    exact wpAny_pyIter_tuple p (pi_one (tk := s1.toks) I1 _ (turn_tuple a _) ⟨_, Heap.get?_push_size _ rfl, rfl, rfl⟩ q)
  · obtain ⟨t, rfl⟩ := r1
    cases ha : y.cps.all (· < 128) with
    | false => exact wpAny_pyIter_wide ha (pi_one (tk := s1.toks) I1 _ (turn_str _ y t "str_iterator" (.inr rfl)) ⟨_, Heap.get?_push_size _ rfl, rfl, rfl⟩ q)
    | true => exact wpAny_pyIter_ascii ha (pi_one (tk := s1.toks) I1 _ (turn_str _ y t "str_ascii_iterator" (.inl rfl)) ⟨_, Heap.get?_push_size _ rfl, rfl, rfl⟩ q)
  · cases r1
    obtain ⟨o, I2⟩ := I1.lock hd trivial
    exact keys I2 upd_same (q o)
  · cases r1
    exact keys I1 hd q
/-- a dict is locked ahead -/
def LockV (x : V) (H : Hp) (Q : Addr → Obj → List (Key × V) → Hp → Prop) : Prop := ∃ a kvs, x = .ref a ∧ ((H a = some (.dK kvs) ∧ ∀ o, Q a o kvs (upd H a (.frz o (.dK kvs)))) ∨ ∃ o, H a = some (.frz o (.dK kvs)) ∧ Q a o kvs H)
theorem pe_lock {X : Cx} {e : Expr} {te : TE} (he : PE X e te) : PE X e (fun σ H Q => te σ H fun x H1 => LockV x H1 fun _ _ _ H2 => Q x H2) := by
  refine ⟨fun pins s σ H Q I h => thn (he.run pins s σ H _ I h) fun v s1 ⟨x, H1, I1, r1, a, kvs, ex, q⟩ => ?_⟩
  rcases q with ⟨hd, q⟩ | ⟨o, hd, q⟩
  · obtain ⟨o, I2⟩ := I1.lock hd trivial
    exact ⟨x, _, I2, r1, q o⟩
  · exact ⟨x, _, I1, r1, q⟩
section
variable {K : PySem.W.Frag} {G : Gh} {tmp : List (Addr × HO)} {F F' : Addr → Prop} {σ σ' : St} {H H' : Hp} {env env' : EnvD} {fp fp' : Nat → List Addr}
theorem SR.lock (S : SR K G tmp F σ H env fp) {a : Addr} {kvs : List (Key × V)} (f : F a) (h : H a = some (.dK kvs)) (o : Obj) : SR K G tmp F σ (upd H a (.frz o (.dK kvs))) env fp ∧ Ext F H F (upd H a (.frz o (.dK kvs))) := by
  have kp : ∀ b, F b → Kp (upd H a (.frz o (.dK kvs)) b) (H b) := fun b fb => by
    by_cases e : b = a
    · subst e
      rw [upd_same, h]
      exact ⟨rfl, fun _ _ z => by cases z⟩
    · exact Kp.of (upd_ne e)
  have off : ∀ b, (∀ g : F b, False) → upd H a (.frz o (.dK kvs)) b = H b := fun b nb => upd_ne fun e => nb (e ▸ f)
  refine ⟨S.gen S.len (Nat.le_refl _) (fun _ => False) (fun _ w => w.elim) ⟨fun b u hb nf _ => (off b nf).trans hb, kp, fun b u hb => ?_⟩ (fun _ g => g) (fun j s hj => .inl ⟨hj, rfl, rfl, fun b hb => off b fun g => S.nf j b hb g⟩) S.dj S.nf
    (fun i b hb => .inl hb) (fun j d hj => .inl ⟨hj, rfl⟩) (fun i b hb => ?_) (fun q hq => ⟨(S.tm q hq).2.1, (S.tm q hq).2.2.2⟩) (fun b g => ?_) (fun b g => .inl g), fun b g => ⟨g, kp b g⟩⟩
  · by_cases e : b = a
    · subst e; exact ⟨_, upd_same⟩
    · exact ⟨u, (upd_ne e).trans hb⟩
  · obtain ⟨u, hu, du⟩ := S.own i b hb
    exact ⟨u, (off b fun g => S.nf i b hb g).trans hu, du⟩
  · obtain ⟨u, hu, du⟩ := S.dom b g
    exact vw_data (kp b g).1 hu du
end
def charsD (z : Str) : List D := z.cps.toList.map fun c => .str ⟨#[c]⟩
def itemsD : D → Option (List D)
  | .lst xs => some xs
  | .tup xs => some xs
  | .str z => some (charsD z)
  | .dct kvs => some (kvs.map fun kv => keyD kv.1)
  | _ => none
def wIt (we : WE) : WI := fun env Q => we env fun r env1 => fz r env1 fun d env2 => match itemsD d with
  | some ds => Q ds env2
  | none => False
section
variable {K : PySem.W.Frag} {G : Gh} {F F' : Addr → Prop} {H H' : Hp}
theorem it_list {a : Addr} {xs : List D} {vs : List V} (f : F a) (h : H a = some (.lst vs)) (r : Dats K F H xs vs) : ItD K G (Itl K a) xs F H := by
  intro tmp F2 σ2 H2 env2 fp2 e S i
  have h2 : H2 a = some (.lst vs) := vw_of_lst ((e a f).2.1.trans (by rw [h]; rfl))
  have r2 := r.mono e
  refine ⟨fun d hd => ?_, fun hi => ⟨vs, .of h2, by rw [← r2.length]; exact hi⟩⟩
  obtain ⟨v, hv, rv⟩ := r2.get hd
  refine ⟨⟨vs, v, .of h2, hv⟩, fun x H3 y => ?_⟩
  obtain ⟨rfl, y⟩ := y
  have hx := y vs (.of h2)
  rw [hv] at hx
  cases hx
  exact ⟨F2, S, Ext.refl, rv⟩
theorem SqT.inj {X : Cx} : True := trivial
theorem it_tup {a : Addr} {xs : List D} {vs : List V} (d : Dat K F H (.tup xs) (.ref a)) (h : SqT K H a vs) (hl : ∀ F2 H2, Ext F H F2 H2 → SqT K H2 a vs) (r : Dats K F H xs vs) : ItD K G (Itt K a) xs F H := by
  intro tmp F2 σ2 H2 env2 fp2 e S i
  have h2 := hl F2 H2 e
  have r2 := r.mono e
  refine ⟨fun d hd => ?_, fun hi => ⟨vs, h2, by rw [← r2.length]; exact hi⟩⟩
  obtain ⟨v, hv, rv⟩ := r2.get hd
  refine ⟨⟨vs, v, h2, hv⟩, fun x H3 y => ?_⟩
  obtain ⟨rfl, y⟩ := y
  have hx := y vs h2
  rw [hv] at hx
  cases hx
  exact ⟨F2, S, Ext.refl, rv⟩
theorem Dat.tupA {a : Addr} {xs : List D} (d : Dat K F H (.tup xs) (.ref a)) : ∃ vs, SqT K H a vs ∧ (∀ F2 H2, Ext F H F2 H2 → SqT K H2 a vs) ∧ Dats K F H xs vs := by
  cases d with
  | tup f h r => exact ⟨_, .of h, fun F2 H2 e => .of (vw_of_tup ((e a f).2.1.trans (by rw [h]; rfl))), r⟩
  | tupK hk hc hd hz rv r => exact ⟨_, .inr ⟨_, _, _, hk, hc, hd, hz, rv⟩, fun F2 H2 e => .inr ⟨_, _, _, hk, hc, hd, hz, rv⟩, r⟩
theorem it_str (y : Str) : ItD K G (Its y) (charsD y) F H := by
  intro tmp F2 σ2 H2 env2 fp2 e S i
  refine ⟨fun d hd => ?_, fun hi => ?_⟩
  · unfold charsD at hd
    rw [List.getElem?_map] at hd
    obtain ⟨c, hc, rfl⟩ := Option.map_eq_some_iff.mp hd
    have hc' : y.cps[i]? = some c := by simpa using hc
    refine ⟨(Array.getElem?_eq_some_iff.mp hc').1, fun x H3 z => ?_⟩
    obtain ⟨rfl, c', hc2, rfl⟩ := z
    rw [hc'] at hc2
    cases hc2
    exact ⟨F2, S, Ext.refl, .str⟩
  · show y.cps.size ≤ i
    simpa [charsD] using hi
theorem it_keys {a : Addr} {o : Obj} {kvs : List (Key × D)} {ks : List (Key × V)} (f : F a) (h : H a = some (.frz o (.dK ks))) (r : DatK K F H kvs ks) : ItD K G (Itk a o ks) (kvs.map fun kv => keyD kv.1) F H := by
  intro tmp F2 σ2 H2 env2 fp2 e S i
  have h2 : H2 a = some (.frz o (.dK ks)) := ((e a f).2.2 o _ h).trans h
  have rk := (keys_dat r).mono e
  refine ⟨fun d hd => ?_, fun hi => ⟨h2, by rw [← r.length]; simpa using hi⟩⟩
  obtain ⟨v, hv, rv⟩ := rk.get hd
  rw [List.getElem?_map] at hv
  obtain ⟨⟨k, u⟩, hk, rfl⟩ := Option.map_eq_some_iff.mp hv
  refine ⟨⟨h2, (List.getElem?_eq_some_iff.mp hk).1⟩, fun x H3 z => ?_⟩
  obtain ⟨rfl, k', v', hk', rfl⟩ := z
  rw [hk] at hk'
  cases hk'
  exact ⟨F2, S, Ext.refl, rv⟩
end
section
variable {X : Cx} {G : Gh} {tg e o b : Expr} {we wo wa wb : WE} {wr : WA} {wi : WI} {p pos apos cpos tpos : Pos}
theorem di_it (he : DE X G e we) : DI X G tg e (wIt we) := by
  refine PI.imp (pi_any he) fun σ H R h => ?_
  obtain ⟨tmp, F, env, fp, Qd, S, h, k⟩ := h
  refine ⟨tmp, F, env, fp, _, S, h, fun r env1 v H1 F1 fp1 e1 S1 r1 h1 => ?_⟩
  obtain ⟨d, env2, F2, fp2, S2, e2, rd, h2⟩ := S1.fz r1 h1
  have e12 := e1.trans e2
  split at h2
  · rename_i ds hds
    cases d with
    | lst xs =>
      cases hds
      cases rd with
      | lst f h r => exact .inl ⟨_, _, rfl, .of h, k _ _ _ _ _ _ e12 S2 (it_list f h r) h2⟩
    | tup xs =>
      cases hds
      obtain ⟨a, us, rfl, _, _⟩ := Lk.tup (Or.inl rd)
      obtain ⟨vs, g1, g2, g3⟩ := rd.tupA
      exact .inr (.inl ⟨a, vs, rfl, g1, k _ _ _ _ _ _ e12 S2 (it_tup rd g1 g2 g3) h2⟩)
    | str z =>
      cases hds
      cases rd
      exact .inr (.inr (.inl ⟨z, rfl, k _ _ _ _ _ _ e12 S2 (it_str z) h2⟩))
    | dct kvs =>
      cases hds
      cases rd with
      | dct f h r =>
        rcases vw_of_dK h with g | ⟨ob, g⟩
        · refine .inr (.inr (.inr (.inl ⟨_, _, rfl, g, fun ob => ?_⟩)))
          obtain ⟨S3, e3⟩ := S2.lock f g ob
          exact k _ _ _ _ _ _ (e12.trans e3) S3 (it_keys f upd_same (r.mono e3)) h2
        · exact .inr (.inr (.inr (.inr ⟨_, ob, _, rfl, g, k _ _ _ _ _ _ e12 S2 (it_keys f g r) h2⟩)))
    | _ => cases hds
  · exact h2.elim
/-! ### range -/
def rangeD (lo hi : Int) : List D := (List.range (hi - lo).toNat).map fun (n : Nat) => D.int (lo + (n : Int))
theorem it_range {K : PySem.W.Frag} {F : Addr → Prop} {H : Hp} (lo hi : Int) : ItD K G (Itr lo (hi - lo).toNat) (rangeD lo hi) F H := by
  intro tmp F2 σ2 H2 env2 fp2 e S i
  refine ⟨fun d hd => ?_, fun hi' => ?_⟩
  · unfold rangeD at hd
    rw [List.getElem?_map] at hd
    obtain ⟨c, hc, rfl⟩ := Option.map_eq_some_iff.mp hd
    obtain ⟨hc1, hc2⟩ := List.getElem?_eq_some_iff.mp hc
    simp at hc1 hc2
    subst hc2
    refine ⟨(by show i < (hi - lo).toNat; omega), fun x H3 z => ?_⟩
    obtain ⟨rfl, rfl⟩ := z
    exact ⟨F2, S, Ext.refl, .int⟩
  · show (hi - lo).toNat ≤ i
    simpa [rangeD] using hi'
def wRng1 (wr : WA) : WI := fun env Q => wr env fun rs env1 => match pks env1 rs with
  | some [.int j] => -(2 ^ 62) ≤ j ∧ j < 2 ^ 62 ∧ Q (rangeD 0 j) env1
  | _ => False
def wRng2 (wr : WA) : WI := fun env Q => wr env fun rs env1 => match pks env1 rs with
  | some [.int i, .int j] => (-(2 ^ 62) ≤ i ∧ i < 2 ^ 62 ∧ -(2 ^ 62) ≤ j ∧ j < 2 ^ 62) ∧ Q (rangeD i j) env1
  | _ => False
theorem di_range1 {n : Nat} (hg : Gl X "range") (hm : X.mg "range" = none) (ha : DA X G [e] n wr) (hs : starEach [e] X.env = [(false, eval e X.env)] := by rfl) : DI X G tg (.Call (.Name "range" p) [e] [] pos) (wRng1 wr) := by
  refine PI.imp (pi_range1 hg hm ha hs) fun σ H R h => ?_
  obtain ⟨tmp, F, env, fp, Qd, S, h, k⟩ := h
  refine ⟨tmp, F, env, fp, _, S, h, fun rs env1 vs H1 F1 fp1 hl e1 S1 r1 h1 => ?_⟩
  split at h1
  · rename_i j hp
    obtain ⟨v, rfl, l1⟩ := (Lks.of_pks S1 r1 hp).one
    have q := it_range (K := X.K) (G := G) (F := F1) (H := H1) 0 j
    rw [Int.sub_zero] at q
    exact ⟨j, by rw [l1.int], h1.1, h1.2.1, k _ _ _ _ _ _ e1 S1 q h1.2.2⟩
  · exact h1.elim
theorem di_range2 {n : Nat} (hg : Gl X "range") (hm : X.mg "range" = none) (ha : DA X G [e, b] n wr) (hs : starEach [e, b] X.env = [(false, eval e X.env), (false, eval b X.env)] := by rfl) (hs2 : starEach [b] X.env = [(false, eval b X.env)] := by rfl) :
    DI X G tg (.Call (.Name "range" p) [e, b] [] pos) (wRng2 wr) := by
  refine PI.imp (pi_range2 hg hm ha hs hs2) fun σ H R h => ?_
  obtain ⟨tmp, F, env, fp, Qd, S, h, k⟩ := h
  refine ⟨tmp, F, env, fp, _, S, h, fun rs env1 vs H1 F1 fp1 hl e1 S1 r1 h1 => ?_⟩
  split at h1
  · rename_i i j hp
    obtain ⟨v, u, rfl, l1, l2⟩ := (Lks.of_pks S1 r1 hp).two
    exact ⟨i, j, by rw [l1.int, l2.int], h1.1, k _ _ _ _ _ _ e1 S1 (it_range i j) h1.2⟩
  · exact h1.elim
/-! ### d.items(), d.values() -/
def pairD (kv : Key × D) : D := .tup [keyD kv.1, kv.2]
def wItems (we : WE) : WI := fun env Q => we env fun r env1 => fz r env1 fun d env2 => match d with
  | .dct kvs => Q (kvs.map pairD) env2
  | _ => False
def wVals (we : WE) : WI := fun env Q => we env fun r env1 => fz r env1 fun d env2 => match d with
  | .dct kvs => Q (kvs.map (·.2)) env2
  | _ => False
theorem getK {K : PySem.W.Frag} {F : Addr → Prop} {H : Hp} : ∀ {ds : List (Key × D)} {vs : List (Key × V)} {i : Nat} {kd : Key × D}, DatK K F H ds vs → ds[i]? = some kd → ∃ v, vs[i]? = some (kd.1, v) ∧ Dat K F H kd.2 v
  | _, _, _, _, .nil, e => by simp at e
  | _, _, 0, _, .cons h _, e => by simp at e; subst e; exact ⟨_, rfl, h⟩
  | _, _, i + 1, _, .cons _ t, e => by
    obtain ⟨v, h1, h2⟩ := getK (i := i) t (by simpa using e)
    exact ⟨v, by simpa using h1, h2⟩
theorem key_dat {K : PySem.W.Frag} {F : Addr → Prop} {H : Hp} (k : Key) : Dat K F H (keyD k) (kV k) := by cases k <;> first | exact .int | exact .str
theorem it_items {K : PySem.W.Frag} {F : Addr → Prop} {H : Hp} {a : Addr} {o : Obj} {kvs : List (Key × D)} {ks : List (Key × V)} (f : F a) (h : H a = some (.frz o (.dK ks))) (r : DatK K F H kvs ks) : ItD K G (Iti a o ks) (kvs.map pairD) F H := by
  intro tmp F2 σ2 H2 env2 fp2 e S i
  have h2 : H2 a = some (.frz o (.dK ks)) := ((e a f).2.2 o _ h).trans h
  have r2 := r.mono e
  refine ⟨fun d hd => ?_, fun hi => ⟨h2, by rw [← r.length]; simpa using hi⟩⟩
  rw [List.getElem?_map] at hd
  obtain ⟨kd, hk, rfl⟩ := Option.map_eq_some_iff.mp hd
  obtain ⟨v, hv, rv⟩ := getK r2 hk
  refine ⟨⟨h2, (List.getElem?_eq_some_iff.mp hv).1⟩, fun x H3 z => ?_⟩
  obtain ⟨T, k', v', hk', rfl, nT, rfl⟩ := z
  rw [hv] at hk'
  cases hk'
  obtain ⟨S3, e3⟩ := S.newSh nT (o := .tup [kV kd.1, v]) rfl
  exact ⟨_, S3, e3, Dat.tup (.inr rfl) upd_same (.cons (key_dat _) (.cons (rv.mono e3) .nil))⟩
theorem it_vals {K : PySem.W.Frag} {F : Addr → Prop} {H : Hp} {a : Addr} {o : Obj} {kvs : List (Key × D)} {ks : List (Key × V)} (f : F a) (h : H a = some (.frz o (.dK ks))) (r : DatK K F H kvs ks) : ItD K G (Itd a o ks) (kvs.map (·.2)) F H := by
  intro tmp F2 σ2 H2 env2 fp2 e S i
  have h2 : H2 a = some (.frz o (.dK ks)) := ((e a f).2.2 o _ h).trans h
  have r2 := r.mono e
  refine ⟨fun d hd => ?_, fun hi => ⟨h2, by rw [← r.length]; simpa using hi⟩⟩
  rw [List.getElem?_map] at hd
  obtain ⟨kd, hk, rfl⟩ := Option.map_eq_some_iff.mp hd
  obtain ⟨v, hv, rv⟩ := getK r2 hk
  refine ⟨⟨h2, (List.getElem?_eq_some_iff.mp hv).1⟩, fun x H3 z => ?_⟩
  obtain ⟨rfl, k', hk'⟩ := z
  rw [hv] at hk'
  cases hk'
  exact ⟨F2, S, Ext.refl, rv⟩
theorem lock_dat {K : PySem.W.Frag} {tmp : List (Addr × HO)} {F : Addr → Prop} {σ : St} {H : Hp} {env : EnvD} {fp : Nat → List Addr} (S : SR K G tmp F σ H env fp) {kvs : List (Key × D)} {v : V} (rd : Dat K F H (.dct kvs) v) {Q : Addr → Obj → List (Key × V) → Hp → Prop}
    (k : ∀ a o ks H', Ext F H F H' → SR K G tmp F σ H' env fp → F a → H' a = some (.frz o (.dK ks)) → DatK K F H' kvs ks → v = .ref a → Q a o ks H') : LockV v H Q := by
  cases rd with
  | dct f h r =>
    rcases vw_of_dK h with g | ⟨ob, g⟩
    · refine ⟨_, _, rfl, .inl ⟨g, fun ob => ?_⟩⟩
      obtain ⟨S3, e3⟩ := S.lock f g ob
      exact k _ _ _ _ e3 S3 f upd_same (r.mono e3) rfl
    · exact ⟨_, _, rfl, .inr ⟨ob, g, k _ _ _ _ Ext.refl S f g r rfl⟩⟩
theorem di_items {elts : List Expr} {kk : Nat} (he : DE X G e we) (hbase : attributeBase e "items" X.env (eval e X.env) = eval e X.env := by rfl) (hline : (apos.endLine == cpos.line) = true := by rfl) :
    DI X G (.Tuple elts kk tpos) (.Call (.Attribute e "items" apos) [] [] cpos) (wItems we) := by
  refine PI.imp (pi_items (pe_lock he) hbase hline) fun σ H R h => ?_
  obtain ⟨tmp, F, env, fp, Qd, S, h, k⟩ := h
  refine ⟨tmp, F, env, fp, _, S, h, fun r env1 v H1 F1 fp1 e1 S1 r1 h1 => ?_⟩
  obtain ⟨d, env2, F2, fp2, S2, e2, rd, h2⟩ := S1.fz r1 h1
  split at h2
  · rename_i kvs
    exact lock_dat S2 rd fun a o ks H' e3 S3 f g r ev => ⟨a, o, ks, ev, g, k _ _ _ _ _ _ ((e1.trans e2).trans e3) S3 (it_items f g r) h2⟩
  · exact h2.elim
theorem di_vals (he : DE X G e we) (hbase : attributeBase e "values" X.env (eval e X.env) = eval e X.env := by rfl) (hline : (apos.endLine == cpos.line) = true := by rfl) :
    DI X G tg (.Call (.Attribute e "values" apos) [] [] cpos) (wVals we) := by
  refine PI.imp (pi_values (pe_lock he) hbase hline) fun σ H R h => ?_
  obtain ⟨tmp, F, env, fp, Qd, S, h, k⟩ := h
  refine ⟨tmp, F, env, fp, _, S, h, fun r env1 v H1 F1 fp1 e1 S1 r1 h1 => ?_⟩
  obtain ⟨d, env2, F2, fp2, S2, e2, rd, h2⟩ := S1.fz r1 h1
  split at h2
  · rename_i kvs
    exact lock_dat S2 rd fun a o ks H' e3 S3 f g r ev => ⟨a, o, ks, ev, g, k _ _ _ _ _ _ ((e1.trans e2).trans e3) S3 (it_vals f g r) h2⟩
  · exact h2.elim
/-! ### targets -/
abbrev WG := D → EnvD → (EnvD → Prop) → Prop
def liftG (K : PySem.W.Frag) (G : Gh) (vs : List Nat) (wg : WG) : TG := fun v σ H Q => ∃ tmp F env fp d Qd, SR K G tmp F σ H env fp ∧ Dat K F H d v ∧ wg d env Qd ∧ ∀ σ' env' fp', SR K G tmp F σ' H env' fp' → σ'.length = σ.length → (∀ k, k ∉ vs → σ'[k]? = σ[k]?) → Qd env' → Q σ' H
abbrev DG (X : Cx) (G : Gh) (tg : Expr) (vs : List Nat) (wg : WG) : Prop := PG X tg (liftG X.K G vs wg)
theorem PG.imp {X : Cx} {tg : Expr} {t t' : TG} (h : PG X tg t) (i : ∀ v σ H Q, t' v σ H Q → t v σ H Q) : PG X tg t' := ⟨fun pins s σ H v u Q I r q => h.run pins s σ H v u Q I r (i v σ H Q q)⟩
def gN (i : Nat) : WG := fun d env Q => i < env.length ∧ Q (env.set i (.im d))
theorem dg_name (i : Nat) {x : Str} {vs : List Nat} (hv : i ∈ vs) (hN : X.N.Nodup) (hi : X.N[i]? = some x) (hx : Loc X.env.scope x) (hf : X.fn x = true ∨ X.env.scope.names.lookup x = some .local := by first | exact .inl rfl | exact .inr rfl | assumption) : DG X G (.Name x pos) vs (gN i) := by
  refine PG.imp (pg_name hN hi hx hf) fun v σ H Q h => ?_
  obtain ⟨tmp, F, env, fp, d, Qd, S, rd, h, k⟩ := h
  exact k _ _ _ (S.setIm h.1 rd) (by simp) (fun m hm => List.getElem?_set_ne fun (e : i = m) => hm (e ▸ hv)) h.2
abbrev WGs := List D → EnvD → (EnvD → Prop) → Prop
def liftGs (K : PySem.W.Frag) (G : Gh) (vs : List Nat) (wg : WGs) : TGs := fun us σ H Q => ∃ tmp F env fp ds Qd, SR K G tmp F σ H env fp ∧ Dats K F H ds us ∧ wg ds env Qd ∧ ∀ σ' env' fp', SR K G tmp F σ' H env' fp' → σ'.length = σ.length → (∀ k, k ∉ vs → σ'[k]? = σ[k]?) → Qd env' → Q σ' H
abbrev DGs (X : Cx) (G : Gh) (tgs : List Expr) (vs : List Nat) (wg : WGs) : Prop := PGs X tgs (liftGs X.K G vs wg)
theorem PGs.imp {X : Cx} {tg : List Expr} {t t' : TGs} (h : PGs X tg t) (i : ∀ v σ H Q, t' v σ H Q → t v σ H Q) : PGs X tg t' := ⟨fun pins s σ H v u Q I r q => h.run pins s σ H v u Q I r (i v σ H Q q)⟩
def gsNil : WGs := fun ds env Q => ds = [] ∧ Q env
def gsCons (g : WG) (gs : WGs) : WGs := fun ds env Q => match ds with
  | d :: r => g d env fun env1 => gs r env1 Q
  | [] => False
theorem dgs_nil {vs : List Nat} : DGs X G [] vs gsNil := PGs.imp pgs_nil fun us σ H Q h => by
  obtain ⟨tmp, F, env, fp, ds, Qd, S, rd, ⟨rfl, h⟩, k⟩ := h
  cases rd
  exact ⟨rfl, k _ _ _ S rfl (fun _ _ => rfl) h⟩
theorem dgs_cons {es : List Expr} {vs : List Nat} {g : WG} {gs : WGs} (h1 : DG X G e vs g) (h2 : DGs X G es vs gs) (hs : (assignEach (e :: es) X.env).map (·.2) = assign e X.env :: (assignEach es X.env).map (·.2) := by rfl) : DGs X G (e :: es) vs (gsCons g gs) := PGs.imp (pgs_cons h1 h2 hs) fun us σ H Q h => by
  obtain ⟨tmp, F, env, fp, ds, Qd, S, rd, h, k⟩ := h
  unfold gsCons at h
  split at h
  · rename_i d r
    cases rd with
    | cons r1 r2 => exact ⟨_, _, rfl, tmp, F, env, fp, d, _, S, r1, h, fun σ' env' fp' S' l1 k1 q => ⟨tmp, F, env', fp', r, Qd, S', r2, q, fun σ2 env2 fp2 S2 l2 k2 q2 => k _ _ _ S2 (l2.trans l1) (fun m hm => (k2 m hm).trans (k1 m hm)) q2⟩⟩
  · exact h.elim
def gT (n : Nat) (gs : WGs) : WG := fun d env Q => match d with
  | .tup ds => ds.length = n ∧ gs ds env Q
  | _ => False
theorem dg_tup {es : List Expr} {k : Nat} {vs : List Nat} {gs : WGs} {n : Nat} (hc : X.calm = true) (h : DGs X G es vs gs) (hn : (assignEach es X.env).length = n := by rfl) (hst : (assignEach es X.env).findIdx? (·.1) = none := by rfl) : DG X G (.Tuple es k pos) vs (gT n gs) :=
  PG.imp (pg_tup hc h hn hst) fun v σ H Q h => by
    obtain ⟨tmp, F, env, fp, d, Qd, S, rd, h, kk⟩ := h
    unfold gT at h
    split at h
    · rename_i ds
      obtain ⟨a, us, rfl, h1, h2⟩ := Lk.tup (Or.inl rd)
      exact ⟨a, us, rfl, h1, by rw [← h2.length]; exact h.1, tmp, F, env, fp, ds, Qd, S, h2, h.2, kk⟩
    · exact h.elim
/-! ### for -/
def forGo (wg : WG) (wb : WS) : List D → EnvD → DEnds → Prop
  | [], env, De => De.nx env
  | d :: ds, env, De => wg d env fun env1 => wb env1 ⟨fun env2 => forGo wg wb ds env2 De, De.rt, De.nx, fun env2 => forGo wg wb ds env2 De⟩
def sFor (wi : WI) (wg : WG) (wb : WS) : WS := fun env De => wi env fun ds env1 => forGo wg wb ds env1 De
theorem ds_for {iter : Expr} {body : List Stmt} {vs : List Nat} {wg : WG} {wb : WS} (hp : PassesOwn (model X.prog X.w) X.A X.env X.xe) (hc : X.calm = true) (hi : DI X G tg iter wi) (hg : DG X G tg vs wg) (hb : DSs X G body wb)
    (hs : ∀ x, foldedSetIterable iter X.env x = pure x := by intro _; rfl) : DS X G (.For tg iter body [] pos) (sFor wi wg wb) := by
  refine PS.imp (ps_for hp hc hi hg hb hs) fun De σ H h => ?_
  obtain ⟨tmp, F, env, fp, Dd, S, h, k⟩ := h
  refine ⟨tmp, F, env, fp, _, S, h, fun ds env1 H1 F1 fp1 J e1 S1 it h1 => ?_⟩
  refine ⟨fun i m σ' H' => m = ds.length - i ∧ i ≤ ds.length ∧ ∃ F' env' fp', SR X.K G tmp F' σ' H' env' fp' ∧ Ext F1 H1 F' H' ∧ forGo wg wb (ds.drop i) env' Dd, ⟨_, rfl, Nat.zero_le _, F1, env1, fp1, S1, Ext.refl, by simpa using h1⟩, ?_⟩
  rintro i m σ' H' ⟨rfl, hi', F', env', fp', S', e', q⟩
  obtain ⟨t1, t2⟩ := it _ _ _ _ _ _ e' S' i
  rcases Nat.lt_or_ge i ds.length with hlt | hge
  · have hd : ds[i]? = some ds[i] := List.getElem?_eq_getElem hlt
    obtain ⟨go, yl⟩ := t1 _ hd
    rw [List.drop_eq_getElem_cons hlt] at q
    refine .inr ⟨go, fun σ2 H2 => ∃ F2 env2 fp2, SR X.K G tmp F2 σ2 H2 env2 fp2 ∧ Ext F1 H1 F2 H2 ∧ forGo wg wb (ds.drop (i + 1)) env2 Dd, fun σ2 H2 z => ⟨_, by omega, rfl, hlt, z⟩, fun x H3 y => ?_⟩
    obtain ⟨F3, S3, e3, rd⟩ := yl x H3 y
    refine ⟨tmp, F3, env', fp', _, _, S3, rd, q, fun σ4 env4 fp4 S4 _ _ q4 => ?_⟩
    have ee := e'.trans e3
    refine ⟨tmp, F3, env4, fp4, _, S4, q4, ⟨fun env5 σ5 H5 F5 fp5 e5 S5 q5 => ⟨F5, env5, fp5, S5, ee.trans e5, q5⟩, fun r env5 σ5 v5 H5 F5 fp5 e5 S5 r5 q5 => k.rt _ _ _ _ _ _ _ (((e1.trans ee)).trans e5) S5 r5 q5, fun env5 σ5 H5 F5 fp5 e5 S5 q5 => k.nx _ _ _ _ _ ((e1.trans ee).trans e5) S5 q5, fun env5 σ5 H5 F5 fp5 e5 S5 q5 => ⟨F5, env5, fp5, S5, ee.trans e5, q5⟩⟩⟩
  · have ei : i = ds.length := by omega
    refine .inl ⟨t2 hge, ?_⟩
    rw [ei, List.drop_length] at q
    exact k.nx _ _ _ _ _ (e1.trans e') S' q
/-! ### while: so many turns at most -/
def whGo (wt : WT) (wb : WS) : Nat → EnvD → DEnds → Prop
  | 0, _, _ => False
  | n + 1, env, De => wt env fun b env1 => if b = true then wb env1 ⟨fun env2 => whGo wt wb n env2 De, De.rt, De.nx, fun env2 => whGo wt wb n env2 De⟩ else De.nx env1
def sWhile (wt : WT) (wb : WS) : WS := fun env De => ∃ n, whGo wt wb n env De
theorem ds_while {c : Expr} {body : List Stmt} {wt : WT} {wb : WS} (hp : PassesOwn (model X.prog X.w) X.A X.env X.xe) (hc : DT X G c wt) (hb : DSs X G body wb) : DS X G (.While c body [] pos) (sWhile wt wb) := by
  refine PS.imp (ps_while hp hc hb) fun De σ H h => ?_
  obtain ⟨tmp, F, env, fp, Dd, S, ⟨n, h⟩, k⟩ := h
  refine ⟨fun m σ' H' => ∃ F' env' fp', SR X.K G tmp F' σ' H' env' fp' ∧ Ext F H F' H' ∧ whGo wt wb m env' Dd, ⟨n, F, env, fp, S, Ext.refl, h⟩, ?_⟩
  rintro m σ' H' ⟨F', env', fp', S', e', q⟩
  cases m with
  | zero => exact q.elim
  | succ m =>
    refine liftT_seq S' q fun b env1 H1 F1 fp1 e1 S1 q1 => ?_
    cases b with
    | false => exact k.nx _ _ _ _ _ (e'.trans e1) S1 q1
    | true =>
      refine ⟨fun σ2 H2 => ∃ F2 env2 fp2, SR X.K G tmp F2 σ2 H2 env2 fp2 ∧ Ext F H F2 H2 ∧ whGo wt wb m env2 Dd, fun σ2 H2 z => ⟨m, Nat.lt_succ_self _, z⟩, tmp, F1, env1, fp1, _, S1, q1, ?_⟩
      have ee := e'.trans e1
      exact ⟨fun env5 σ5 H5 F5 fp5 e5 S5 q5 => ⟨F5, env5, fp5, S5, ee.trans e5, q5⟩, fun r env5 σ5 v5 H5 F5 fp5 e5 S5 r5 q5 => k.rt _ _ _ _ _ _ _ (ee.trans e5) S5 r5 q5, fun env5 σ5 H5 F5 fp5 e5 S5 q5 => k.nx _ _ _ _ _ (ee.trans e5) S5 q5, fun env5 σ5 H5 F5 fp5 e5 S5 q5 => ⟨F5, env5, fp5, S5, ee.trans e5, q5⟩⟩
end
end DL
namespace DL
open PySem PySem.Spec PyProof.Rows L2
/-! ### a block's own names -/
def wipeE (env : EnvD) : List Nat → EnvD
  | [] => env
  | v :: vs => (wipeE env vs).set v .un
def okW (env : EnvD) (vs : List Nat) : Prop := vs.Nodup ∧ ∀ v ∈ vs, v < env.length ∧ (env[v]? = some .un ∨ ∃ d, env[v]? = some (.im d))
def unw (env0 : EnvD) : EnvD → List Nat → EnvD
  | env, [] => env
  | env, v :: vs => unw env0 (env.set v (env0.getD v .un)) vs
theorem wipeE_length (env : EnvD) : ∀ vs, (wipeE env vs).length = env.length
  | [] => rfl
  | v :: vs => by unfold wipeE; rw [List.length_set, wipeE_length env vs]
theorem wipe_off {σ : St} {k : Nat} : ∀ {vs : List Nat}, k ∉ vs → (wipe σ vs)[k]? = σ[k]?
  | [], _ => rfl
  | v :: vs, h => by
    simp only [List.mem_cons, not_or] at h
    unfold wipe
    rw [List.getElem?_set_ne (Ne.symm h.1), wipe_off h.2]
theorem wipeE_off {σ : EnvD} {k : Nat} : ∀ {vs : List Nat}, k ∉ vs → (wipeE σ vs)[k]? = σ[k]?
  | [], _ => rfl
  | v :: vs, h => by
    simp only [List.mem_cons, not_or] at h
    unfold wipeE
    rw [List.getElem?_set_ne (Ne.symm h.1), wipeE_off h.2]
theorem wipe_none {σ : St} : ∀ {vs : List Nat} {k : Nat}, k ∈ vs → k < σ.length → (wipe σ vs)[k]? = some none
  | v :: vs, k, h, hk => by
    unfold wipe
    by_cases e : v = k
    · subst e; exact List.getElem?_set_self (by rw [wipe_length]; exact hk)
    · rw [List.getElem?_set_ne e]
      rcases List.mem_cons.mp h with z | z
      · exact absurd z.symm e
      · exact wipe_none z hk
theorem wipe_eq {σ σ' : St} {vs : List Nat} (hl : σ'.length = σ.length) (h : ∀ k, k ∉ vs → σ'[k]? = σ[k]?) : wipe σ' vs = wipe σ vs := by
  refine List.ext_getElem? fun k => ?_
  by_cases hk : k ∈ vs
  · by_cases hlt : k < σ.length
    · rw [wipe_none hk hlt, wipe_none hk (by omega)]
    · rw [List.getElem?_eq_none (by rw [wipe_length]; omega), List.getElem?_eq_none (by rw [wipe_length]; omega)]
  · rw [wipe_off hk, wipe_off hk, h k hk]
section
variable {K : PySem.W.Frag} {G : Gh} {tmp : List (Addr × HO)} {F F' : Addr → Prop} {σ σ' : St} {H H' : Hp} {env env' : EnvD} {fp fp' : Nat → List Addr}
theorem SR.wipe (S : SR K G tmp F σ H env fp) : ∀ {vs : List Nat}, (∀ v ∈ vs, v < env.length) → ∃ fp', SR K G tmp F (wipe σ vs) H (wipeE env vs) fp'
  | [], _ => ⟨fp, S⟩
  | v :: vs, h => by
    obtain ⟨fp1, S1⟩ := S.wipe (vs := vs) fun u hu => h u (List.mem_cons_of_mem _ hu)
    exact ⟨_, S1.put (i := v) (by rw [wipeE_length]; exact h v List.mem_cons_self) (s' := .un) (o := none) (l := []) Ch.refl rfl (fun a h => nomatch h) (fun d h => nomatch h) (fun h => nomatch h) fun _ _ _ _ => rfl⟩
/-- the outer names again -/
theorem SR.unw {F0 : Addr → Prop} {H0 : Hp} {env0 : EnvD} {fp0 : Nat → List Addr} {tmp0 : List (Addr × HO)} (S0 : SR K G tmp0 F0 σ H0 env0 fp0) (e : Ext F0 H0 F H) : ∀ {vs : List Nat} {env : EnvD} {fp : Nat → List Addr}, okW env0 vs → env.length = env0.length → SR K G tmp F (L2.wipe σ vs) H env fp → ∃ fp', SR K G tmp F σ H (unw env0 env vs) fp'
  | [], env, fp, _, _, S => ⟨fp, S⟩
  | v :: vs, env, fp, ok, hl, S => by
    have nd := List.nodup_cons.mp ok.1
    obtain ⟨hv, hs⟩ := ok.2 v List.mem_cons_self
    have okr : okW env0 vs := ⟨nd.2, fun u hu => ok.2 u (List.mem_cons_of_mem _ hu)⟩
    have lσ : v < (L2.wipe σ vs).length := by rw [wipe_length, S0.len]; exact hv
    have ev : (L2.wipe σ vs)[v]? = σ[v]? := wipe_off nd.1
    have back : ((L2.wipe σ vs).set v none).set v ((L2.wipe σ vs)[v]'lσ) = L2.wipe σ vs := by
      rw [List.set_set]
      exact List.set_getElem_self _
    have S' : SR K G tmp F ((L2.wipe σ vs).set v none) H env fp := S
    have key : ∃ fp1, SR K G tmp F (L2.wipe σ vs) H (env.set v (env0.getD v .un)) fp1 := by
      rcases hs with hs | ⟨d, hs⟩
      · have q := S'.put (i := v) (by omega) (s' := .un) (o := (L2.wipe σ vs)[v]'lσ) (l := []) Ch.refl rfl (fun a h => nomatch h) (fun d h => nomatch h) (fun h => nomatch h) fun _ _ _ _ => rfl
        rw [back] at q
        have eg : env0.getD v .un = .un := by rw [List.getD_eq_getElem?_getD, hs]; rfl
        rw [eg]
        exact ⟨_, q⟩
      · obtain ⟨o, h1, h2, u, rfl, rd⟩ := S0.sl v _ hs
        have eo : (L2.wipe σ vs)[v]'lσ = some u := by
          have h3 := ev.trans h1
          rw [List.getElem?_eq_getElem lσ] at h3
          exact Option.some.inj h3
        have q := S'.put (i := v) (by omega) (s' := .im d) (o := (L2.wipe σ vs)[v]'lσ) (l := []) Ch.refl ⟨rfl, u, eo, rd.mono e⟩ (fun a h => nomatch h) (fun d h => nomatch h) (fun h => nomatch h) fun _ _ _ _ => rfl
        rw [back] at q
        have eg : env0.getD v .un = .im d := by rw [List.getD_eq_getElem?_getD, hs]; rfl
        rw [eg]
        exact ⟨_, q⟩
    obtain ⟨fp1, S1⟩ := key
    show ∃ fp', SR K G tmp F σ H (DL.unw env0 (env.set v (env0.getD v .un)) vs) fp'
    exact SR.unw S0 e okr (by simpa using hl) S1
/-- what stands aside is changed -/
theorem SR.tmSet {a : Addr} {o o' : HO} (S : SR K G ((a, o) :: tmp) F σ H env fp) (hd : dataO o = true) (ht : ∀ q ∈ tmp, q.1 ≠ a) (hd2 : dataO o' = true := by rfl) : SR K G ((a, o') :: tmp) F σ (upd H a o') env fp ∧ Ext F H F (upd H a o') := by
  obtain ⟨h1, h2, h3, h4⟩ := S.tm (a, o) List.mem_cons_self
  have off : ∀ b, F b → upd H a o' b = H b := fun b f => upd_ne fun e => h2 (e ▸ f)
  have e : Ext F H F (upd H a o') := fun b f => ⟨f, Kp.of (off b f)⟩
  have offp : ∀ i b, b ∈ fp i → upd H a o' b = H b := fun i b hb => upd_ne fun e => h4 i (e ▸ hb)
  refine ⟨⟨S.len, fun i s hs => ?_, S.dj, S.nf, S.ne, S.loc, fun i b hb => ?_, fun p hp => ?_, fun b f => ?_, fun b u g1 g2 g3 => ?_, fun b f => ?_, S.grow, tabs_keep S.tabs fun b u hb du => ?_, fun b hb => ?_, S.par, S.ls, fun p hp => (List.mem_cons.mp hp).elim (fun e => by rw [e]; exact hd2) fun h => S.td p (List.mem_cons_of_mem _ h)⟩, e⟩
  · obtain ⟨ov, g1, g2⟩ := S.sl i s hs
    exact ⟨ov, g1, g2.same e fun b hb => offp i b hb⟩
  · obtain ⟨u, hu, du⟩ := S.own i b hb
    exact ⟨u, (offp i b hb).trans hu, du⟩
  · rcases List.mem_cons.mp hp with rfl | hp
    · exact ⟨upd_same, h2, h3, h4⟩
    · obtain ⟨g1, g2, g3, g4⟩ := S.tm p (List.mem_cons_of_mem _ hp)
      exact ⟨(upd_ne (ht p hp)).trans g1, g2, g3, g4⟩
  · obtain ⟨u, hu, du⟩ := S.dom b f
    exact ⟨u, (off b f).trans hu, du⟩
  · have g4 := S.keepN b u g1 g2 g3
    refine (upd_ne fun z => ?_).trans g4
    rw [z, h3] at g1
    cases g1
  · obtain ⟨g1, g2⟩ := S.keepF b f
    exact ⟨g1, (Kp.of (off b g1)).trans g2⟩
  · refine (upd_ne fun z => ?_).trans hb
    rw [z, h1] at hb
    cases hb
    rw [du] at hd
    cases hd
  · obtain ⟨u, hu⟩ := S.m0 b hb
    by_cases z : b = a
    · subst z; exact ⟨_, upd_same⟩
    · exact ⟨u, (upd_ne z).trans hu⟩
end
/-! ### list comprehensions -/
def wYes : WT := fun env Q => Q true env
def lcGo (wg : WG) (wt : WT) (we : WE) (vs : List Nat) : List D → List D → EnvD → (List D → EnvD → Prop) → Prop
  | [], acc, env, Q => Q acc env
  | d :: ds, acc, env, Q => wg d env fun env1 => wt env1 fun b env2 => if b = true then we env2 fun r env3 => fz r env3 fun x env4 => acc.length < sizeLine ∧ lcGo wg wt we vs ds (acc ++ [x]) (wipeE env4 vs) Q else lcGo wg wt we vs ds acc (wipeE env2 vs) Q
def wLc (wi : WI) (wg : WG) (wt : WT) (we : WE) (vs : List Nat) : WE := fun env Q => wi env fun ds env1 => okW env1 vs ∧ lcGo wg wt we vs ds [] (wipeE env1 vs) fun acc env2 => env2.length = env1.length ∧ Q (.fr (.lst acc)) (unw env1 env2 vs)
theorem dpts_nil {X : Cx} {G : Gh} : PTs X [] (liftT X.K G wYes) := ⟨fun pins s σ H Q I h => pts_nil.run pins s σ H Q I (by
  obtain ⟨tmp, F, env, fp, Qd, S, h, k⟩ := h
  exact k _ _ _ _ _ Ext.refl S h)⟩
theorem dpts_one {X : Cx} {G : Gh} {c : Expr} {wt : WT} (h : DT X G c wt) : PTs X [c] (liftT X.K G wt) := pts_one h
section
variable {X : Cx} {G : Gh} {tg iter elt kx vx : Expr} {ifs : List Expr} {we wk wv : WE} {wi : WI} {wg : WG} {wt : WT} {vs : List Nat} {pos : Pos}
theorem lift_lc {K : PySem.W.Frag} {σ : St} {H : Hp} {Q : VK} (h : lift K G (wLc wi wg wt we vs) σ H Q) : tLc (liftI K G wi) (liftG K G vs wg) (liftT K G wt) (lift K G we) vs σ H Q := by
  obtain ⟨tmp, F, env, fp, Qd, S, h, k⟩ := h
  refine ⟨tmp, F, env, fp, _, S, h, fun ds env1 H1 F1 fp1 J e1 S1 it h1 => ?_⟩
  obtain ⟨ok, h1⟩ := h1
  intro A nA
  have hv : ∀ v ∈ vs, v < env1.length := fun v hv => (ok.2 v hv).1
  have nT := S1.newT nA
  -- the start
  have Sa : SR K G ((A, .lst []) :: tmp) F1 σ (upd H1 A (.lst [])) env1 fp1 := (S1.alloc nA).aside upd_same (S1.newF nA) (S1.newFp nA) (S1.newG nA)
  have ea : Ext F1 H1 F1 (upd H1 A (.lst [])) := Ext.upd (S1.newF nA)
  obtain ⟨fpw, Sw⟩ := Sa.wipe hv
  let P : List D → List D → EnvD → Prop := fun rest acc env => lcGo wg wt we vs rest acc env fun acc env2 => env2.length = env1.length ∧ Qd (.fr (.lst acc)) (unw env1 env2 vs)
  refine ⟨fun i m H' => m = ds.length - i ∧ i ≤ ds.length ∧ ∃ F' env' fp' acc av, SR K G ((A, .lst av) :: tmp) F' (wipe σ vs) H' env' fp' ∧ Ext F1 H1 F' H' ∧ Dats K F' H' acc av ∧ P (ds.drop i) acc env', ⟨_, rfl, Nat.zero_le _, F1, _, fpw, [], [], Sw, ea, .nil, by simpa using h1⟩, ?_⟩
  rintro i m H' ⟨rfl, hi', F', env', fp', acc, av, S', e', rv, q⟩
  obtain ⟨t1, t2⟩ := it _ _ _ _ _ _ e' S' i
  rcases Nat.lt_or_ge i ds.length with hlt | hge
  · have hd : ds[i]? = some ds[i] := List.getElem?_eq_getElem hlt
    obtain ⟨go, yl⟩ := t1 _ hd
    rw [List.drop_eq_getElem_cons hlt] at q
    refine .inr ⟨go, fun H2 => ∃ F2 env2 fp2 acc av, SR K G ((A, .lst av) :: tmp) F2 (wipe σ vs) H2 env2 fp2 ∧ Ext F1 H1 F2 H2 ∧ Dats K F2 H2 acc av ∧ P (ds.drop (i + 1)) acc env2, fun H2 z => ⟨_, by omega, rfl, hlt, z⟩, fun x H3 y => ?_⟩
    obtain ⟨F3, S3, e3, rd⟩ := yl x H3 y
    refine ⟨_, F3, env', fp', _, _, S3, rd, q, fun σ4 env4 fp4 S4 l4 k4 q4 => ?_⟩
    have ew : wipe σ4 vs = wipe (wipe σ vs) vs := wipe_eq l4 k4
    have ew2 : wipe σ4 vs = wipe σ vs := by
      rw [ew]
      exact wipe_eq (by rw [wipe_length]) fun m hm => wipe_off hm
    refine ⟨ew2, _, F3, env4, fp4, _, S4, q4, fun b env5 H5 F5 fp5 e5 S5 q5 => ?_⟩
    have hv5 : ∀ {env : EnvD} {tmp : List (Addr × HO)} {F : Addr → Prop} {H : Hp} {fp : Nat → List Addr}, SR K G tmp F σ4 H env fp → ∀ v ∈ vs, v < env.length := fun S v hm => by
      rw [← S.len, l4, wipe_length, S1.len]; exact hv v hm
    have e05 := (e'.trans e3).trans e5
    cases b with
    | false =>
      dsimp only
      rw [if_neg Bool.false_ne_true]
      rw [if_neg Bool.false_ne_true] at q5
      obtain ⟨fp6, S6⟩ := S5.wipe (hv5 S5)
      rw [ew2] at S6
      exact ⟨F5, _, fp6, acc, av, S6, e05, rv.mono (e3.trans e5), q5⟩
    | true =>
      dsimp only
      rw [if_pos rfl]
      rw [if_pos rfl] at q5
      refine ⟨_, F5, env5, fp5, _, S5, q5, fun r env6 v H6 F6 fp6 e6 S6 r6 q6 => ?_⟩
      obtain ⟨x7, env7, F7, fp7, S7, e7, rd7, hz, q7⟩ := S6.fz r6 q6
      obtain ⟨g1, g2, g3, g4⟩ := S7.tm (A, .lst av) List.mem_cons_self
      have rv7 := rv.mono (((e3.trans e5).trans e6).trans e7)
      refine ⟨av, g1, by rw [← rv.length]; exact hz, ?_⟩
      obtain ⟨S8, e8⟩ := S7.tmSet (o' := .lst (av ++ [v])) rfl nT
      obtain ⟨fp9, S9⟩ := S8.wipe (hv5 S8)
      rw [ew2] at S9
      exact ⟨F7, _, fp9, acc ++ [x7], av ++ [v], S9, ((e05.trans e6).trans e7).trans e8, ((rv7.append (.cons rd7 .nil)).mono e8), q7⟩
  · have ei : i = ds.length := by omega
    refine .inl ⟨t2 hge, ?_⟩
    rw [ei, List.drop_length] at q
    obtain ⟨ql, q⟩ := q
    obtain ⟨fp9, S9⟩ := SR.unw S1 e' ok ql S'
    obtain ⟨g1, _⟩ := S'.tm (A, .lst av) List.mem_cons_self
    exact k (.fr (.lst acc)) _ _ _ _ _ (e1.trans e') S9.untm (RV.back (d := .lst acc) S9 Ext.refl g1 ⟨av, g1, rv⟩ nT) q
theorem de_lc {scope : Scope} {own : List (Str × Nat)} (hc : X.calm = true) (hN : X.N.Nodup) (hi : DI X G tg iter wi) (ok : BlkOk X.N X.env.scope scope own)
    (hg : ∀ (s : Shared) (H : Hp) (C : Addr) (cl : List (Str × Addr)) (fp : List Addr), DG (X.blk s H scope (compEnvC scope cl C X.env) fp) G tg (own.map (·.2)) wg) (ht : ∀ (s : Shared) (H : Hp) (C : Addr) (cl : List (Str × Addr)) (fp : List Addr), PTs (X.blk s H scope (compEnvC scope cl C X.env) fp) ifs (liftT X.K G wt))
    (he : ∀ (s : Shared) (H : Hp) (C : Addr) (cl : List (Str × Addr)) (fp : List Addr), DE (X.blk s H scope (compEnvC scope cl C X.env) fp) G elt we) (hs : ∀ x, foldedSetIterable iter X.env x = pure x := by intro _; rfl) :
    DE X G (.ListComp elt [⟨tg, iter, ifs, 0⟩] scope pos) (wLc wi wg wt we (own.map (·.2))) := PE.imp (pe_lc hc hN hi ok hg ht he hs) fun _ _ _ h => lift_lc h
/-- x = [..] on one line -/
theorem ds_setLc {scope : Scope} {own : List (Str × Nat)} (i : Nat) {y : Str} {py spos : Pos} (hc : X.calm = true) (hN : X.N.Nodup) (hy : X.N[i]? = some y) (hyl : X.env.scope.names.lookup y = some .local)
    (hsw : swapsWith (.ListComp elt [⟨tg, iter, ifs, 0⟩] scope pos) (some (.Name y py)) spos.line X.env = pure true) (hi : DI X G tg iter wi) (ok : BlkOk X.N X.env.scope scope own)
    (hg : ∀ (s : Shared) (H : Hp) (C : Addr) (cl : List (Str × Addr)) (fp : List Addr), DG (X.blk s H scope (compEnvC scope cl C X.env) fp) G tg (own.map (·.2)) wg) (ht : ∀ (s : Shared) (H : Hp) (C : Addr) (cl : List (Str × Addr)) (fp : List Addr), PTs (X.blk s H scope (compEnvC scope cl C X.env) fp) ifs (liftT X.K G wt))
    (he : ∀ (s : Shared) (H : Hp) (C : Addr) (cl : List (Str × Addr)) (fp : List Addr), DE (X.blk s H scope (compEnvC scope cl C X.env) fp) G elt we) (hs : ∀ x, foldedSetIterable iter X.env x = pure x := by intro _; rfl) :
    DS X G (.Assign [.Name y py] (.ListComp elt [⟨tg, iter, ifs, 0⟩] scope pos) spos) (sSet i (wLc wi wg wt we (own.map (·.2)))) := by
  refine PS.imp (ps_setLc hc hN hy hyl hsw hi ok hg ht he hs) fun D σ H h => lift_lc ?_
  obtain ⟨tmp, F, env, fp, Dd, S, h, k⟩ := h
  refine ⟨tmp, F, env, fp, _, S, h, fun r env1 v H1 F1 fp1 e1 S1 r1 h1 => ?_⟩
  obtain ⟨env2, F2, fp2, S2, e2, h2⟩ := S1.setSl r1 h1
  exact k.nx _ _ _ _ _ (e1.trans e2) S2 h2
/-! ### dict comprehensions -/
def dcGo (wg : WG) (wt : WT) (wk wv : WE) (vs : List Nat) : List D → List (Key × D) → EnvD → (List (Key × D) → EnvD → Prop) → Prop
  | [], acc, env, Q => Q acc env
  | d :: ds, acc, env, Q => wg d env fun env1 => wt env1 fun b env2 => if b = true then wk env2 fun rk env3 => wv env3 fun rv env4 => fz rv.hold env4 fun x env5 => (match (pk env5 rk).bind kD with
      | some k => acc.length < sizeLine ∧ dcGo wg wt wk wv vs ds (putD acc k x) (wipeE env5 vs) Q
      | none => False) else dcGo wg wt wk wv vs ds acc (wipeE env2 vs) Q
def wDc (wi : WI) (wg : WG) (wt : WT) (wk wv : WE) (vs : List Nat) : WE := fun env Q => wi env fun ds env1 => okW env1 vs ∧ dcGo wg wt wk wv vs ds [] (wipeE env1 vs) fun acc env2 => env2.length = env1.length ∧ Q (.fr (.dct acc)) (unw env1 env2 vs)
theorem lift_dc {K : PySem.W.Frag} {σ : St} {H : Hp} {Q : VK} (h : lift K G (wDc wi wg wt wk wv vs) σ H Q) : tDc (liftI K G wi) (liftG K G vs wg) (liftT K G wt) (lift K G wk) (lift K G wv) vs σ H Q := by
  obtain ⟨tmp, F, env, fp, Qd, S, h, k⟩ := h
  refine ⟨tmp, F, env, fp, _, S, h, fun ds env1 H1 F1 fp1 J e1 S1 it h1 => ?_⟩
  obtain ⟨ok, h1⟩ := h1
  intro A nA
  have hv : ∀ v ∈ vs, v < env1.length := fun v hv => (ok.2 v hv).1
  have nT := S1.newT nA
  have Sa : SR K G ((A, .dK []) :: tmp) F1 σ (upd H1 A (.dK [])) env1 fp1 := (S1.alloc nA).aside upd_same (S1.newF nA) (S1.newFp nA) (S1.newG nA)
  have ea : Ext F1 H1 F1 (upd H1 A (.dK [])) := Ext.upd (S1.newF nA)
  obtain ⟨fpw, Sw⟩ := Sa.wipe hv
  let P : List D → List (Key × D) → EnvD → Prop := fun rest acc env => dcGo wg wt wk wv vs rest acc env fun acc env2 => env2.length = env1.length ∧ Qd (.fr (.dct acc)) (unw env1 env2 vs)
  refine ⟨fun i m H' => m = ds.length - i ∧ i ≤ ds.length ∧ ∃ F' env' fp' acc av, SR K G ((A, .dK av) :: tmp) F' (wipe σ vs) H' env' fp' ∧ Ext F1 H1 F' H' ∧ DatK K F' H' acc av ∧ P (ds.drop i) acc env', ⟨_, rfl, Nat.zero_le _, F1, _, fpw, [], [], Sw, ea, .nil, by simpa using h1⟩, ?_⟩
  rintro i m H' ⟨rfl, hi', F', env', fp', acc, av, S', e', rv, q⟩
  obtain ⟨t1, t2⟩ := it _ _ _ _ _ _ e' S' i
  rcases Nat.lt_or_ge i ds.length with hlt | hge
  · have hd : ds[i]? = some ds[i] := List.getElem?_eq_getElem hlt
    obtain ⟨go, yl⟩ := t1 _ hd
    rw [List.drop_eq_getElem_cons hlt] at q
    refine .inr ⟨go, fun H2 => ∃ F2 env2 fp2 acc av, SR K G ((A, .dK av) :: tmp) F2 (wipe σ vs) H2 env2 fp2 ∧ Ext F1 H1 F2 H2 ∧ DatK K F2 H2 acc av ∧ P (ds.drop (i + 1)) acc env2, fun H2 z => ⟨_, by omega, rfl, hlt, z⟩, fun x H3 y => ?_⟩
    obtain ⟨F3, S3, e3, rd⟩ := yl x H3 y
    refine ⟨_, F3, env', fp', _, _, S3, rd, q, fun σ4 env4 fp4 S4 l4 k4 q4 => ?_⟩
    have ew : wipe σ4 vs = wipe (wipe σ vs) vs := wipe_eq l4 k4
    have ew2 : wipe σ4 vs = wipe σ vs := by
      rw [ew]
      exact wipe_eq (by rw [wipe_length]) fun m hm => wipe_off hm
    refine ⟨ew2, _, F3, env4, fp4, _, S4, q4, fun b env5 H5 F5 fp5 e5 S5 q5 => ?_⟩
    have hv5 : ∀ {env : EnvD} {tmp : List (Addr × HO)} {F : Addr → Prop} {H : Hp} {fp : Nat → List Addr}, SR K G tmp F σ4 H env fp → ∀ v ∈ vs, v < env.length := fun S v hm => by
      rw [← S.len, l4, wipe_length, S1.len]; exact hv v hm
    have e05 := (e'.trans e3).trans e5
    cases b with
    | false =>
      dsimp only
      rw [if_neg Bool.false_ne_true]
      rw [if_neg Bool.false_ne_true] at q5
      obtain ⟨fp6, S6⟩ := S5.wipe (hv5 S5)
      rw [ew2] at S6
      exact ⟨F5, _, fp6, acc, av, S6, e05, rv.mono (e3.trans e5), q5⟩
    | true =>
      dsimp only
      rw [if_pos rfl]
      rw [if_pos rfl] at q5
      refine lift2 S5 q5 fun rk rx env6 y1 z1 H6 F6 fp6 e6 S6 rk6 rx6 q6 => ?_
      obtain ⟨x7, env7, F7, fp7, S7, e7, rd7, q7⟩ := S6.fz rx6 q6
      have rk7 := rk6.mono (env' := env7) (fp' := fp7) e7
      split at q7
      · rename_i kk hk
        obtain ⟨kd, hk1, hk2⟩ := Option.bind_eq_some_iff.mp hk
        have ey := kD_lk (Lk.of_pk S7 rk7 hk1) hk2
        obtain ⟨g1, g2, g3, g4⟩ := S7.tm (A, .dK av) List.mem_cons_self
        have rv7 := rv.mono (((e3.trans e5).trans e6).trans e7)
        refine ⟨av, kk, ey, g1, by rw [← rv.length]; exact q7.1, ?_⟩
        obtain ⟨S8, e8⟩ := S7.tmSet (o' := .dK (putK av kk z1)) rfl nT
        obtain ⟨fp9, S9⟩ := S8.wipe (hv5 S8)
        rw [ew2] at S9
        exact ⟨F7, _, fp9, putD acc kk x7, putK av kk z1, S9, ((e05.trans e6).trans e7).trans e8, ((rv7.put kk rd7).mono e8), q7.2⟩
      · exact q7.elim
  · have ei : i = ds.length := by omega
    refine .inl ⟨t2 hge, ?_⟩
    rw [ei, List.drop_length] at q
    obtain ⟨ql, q⟩ := q
    obtain ⟨fp9, S9⟩ := SR.unw S1 e' ok ql S'
    obtain ⟨g1, _⟩ := S'.tm (A, .dK av) List.mem_cons_self
    exact k (.fr (.dct acc)) _ _ _ _ _ (e1.trans e') S9.untm (RV.back (d := .dct acc) S9 Ext.refl g1 ⟨av, g1, rv⟩ nT) q
theorem de_dc {scope : Scope} {own : List (Str × Nat)} (hc : X.calm = true) (hN : X.N.Nodup) (hi : DI X G tg iter wi) (ok : BlkOk X.N X.env.scope scope own)
    (hg : ∀ (s : Shared) (H : Hp) (C : Addr) (cl : List (Str × Addr)) (fp : List Addr), DG (X.blk s H scope (compEnvC scope cl C X.env) fp) G tg (own.map (·.2)) wg) (ht : ∀ (s : Shared) (H : Hp) (C : Addr) (cl : List (Str × Addr)) (fp : List Addr), PTs (X.blk s H scope (compEnvC scope cl C X.env) fp) ifs (liftT X.K G wt))
    (hk : ∀ (s : Shared) (H : Hp) (C : Addr) (cl : List (Str × Addr)) (fp : List Addr), DE (X.blk s H scope (compEnvC scope cl C X.env) fp) G kx wk)
    (he : ∀ (s : Shared) (H : Hp) (C : Addr) (cl : List (Str × Addr)) (fp : List Addr), DE (X.blk s H scope (compEnvC scope cl C X.env) fp) G vx wv) (hs : ∀ x, foldedSetIterable iter X.env x = pure x := by intro _; rfl) :
    DE X G (.DictComp kx vx [⟨tg, iter, ifs, 0⟩] scope pos) (wDc wi wg wt wk wv (own.map (·.2))) := PE.imp (pe_dc hc hN hi ok hg ht hk he hs) fun _ _ _ h => lift_dc h
/-- a block that leaves the names as they are -/
theorem unw_wipe {env : EnvD} : ∀ {vs : List Nat}, okW env vs → unw env (wipeE env vs) vs = env
  | [], _ => rfl
  | v :: vs, ok => by
    have nd := List.nodup_cons.mp ok.1
    obtain ⟨hv, _⟩ := ok.2 v List.mem_cons_self
    show unw env (((wipeE env vs).set v .un).set v (env.getD v .un)) vs = env
    have e : ((wipeE env vs).set v .un).set v (env.getD v .un) = wipeE env vs := by
      rw [List.set_set]
      have h1 : (wipeE env vs)[v]? = some (env.getD v .un) := by
        rw [wipeE_off nd.1, List.getD_eq_getElem?_getD, List.getElem?_eq_getElem hv]; rfl
      obtain ⟨h2, h3⟩ := List.getElem?_eq_some_iff.mp h1
      rw [← h3]
      exact List.set_getElem_self _
    rw [e]
    exact unw_wipe ⟨nd.2, fun u hu => ok.2 u (List.mem_cons_of_mem _ hu)⟩
end
end DL
namespace DL
open PySem PySem.Spec PyProof.Rows L2
/-! ### in, not in -/
def plainVs : List D → Option (List V)
  | [] => some []
  | d :: ds => match plainV d, plainVs ds with
    | some v, some vs => some (v :: vs)
    | _, _ => none
section
variable {K : PySem.W.Frag} {G : Gh} {F : Addr → Prop} {H : Hp}
theorem plain_lk {d : D} {v u : V} (h : Lk K F H d u) (e : plainV d = some v) : u = v ∧ flatV v = true := by
  cases d with
  | non => cases e; exact ⟨h.non, rfl⟩
  | bl b => cases e; exact ⟨h.bl, rfl⟩
  | int i => cases e; exact ⟨h.int, rfl⟩
  | str x => cases e; exact ⟨h.str, rfl⟩
  | _ => cases e
theorem plains_dat : ∀ {ds : List D} {us vs : List V}, Dats K F H ds us → plainVs ds = some vs → us = vs ∧ vs.all flatV = true
  | _, _, _, .nil, e => by cases e; exact ⟨rfl, rfl⟩
  | _, _, vs, .cons (d := d) (ds := ds) h t, e => by
    unfold plainVs at e
    split at e
    · rename_i v vs' h1 h2
      cases e
      obtain ⟨rfl, f1⟩ := plain_lk (Or.inl h) h1
      obtain ⟨rfl, f2⟩ := plains_dat t h2
      exact ⟨rfl, by rw [List.all_cons, f1, f2]; rfl⟩
    · cases e
theorem plainVs_strs : ∀ xs : List Str, plainVs (xs.map D.str) = some (xs.map V.str)
  | [] => rfl
  | x :: xs => by
    show (match plainV (.str x), plainVs (xs.map D.str) with | some v, some vs => some (v :: vs) | _, _ => none) = _
    rw [plainVs_strs xs]; rfl
theorem inV_strs (x : Str) : ∀ xs : List Str, inV (.str x) (xs.map V.str) = decide (x ∈ xs)
  | [] => by simp [inV]
  | y :: xs => by
    have ih := inV_strs x xs
    unfold inV at ih ⊢
    simp only [List.map_cons, List.any_cons]
    rw [ih]
    by_cases e : y = x
    · subst e; simp [eqV]
    · have : eqV (.str y) (.str x) = false := by simp [eqV, e]
      have h2 : eqV (.str x) (.str y) = false := by simp [eqV]; exact fun z => e z.symm
      simp [this, h2, List.mem_cons]
      exact fun z => absurd z.symm e
end
def fIn (ng : Bool) : Op2 := fun a b Q => match a, b with
  | x, .lst xs => (match plainV x, plainVs xs with
    | some v, some vs => Q (.sh (.bl (if ng then !inV v vs else inV v vs)))
    | _, _ => False)
  | x, .tup xs => (match plainV x, plainVs xs with
    | some v, some vs => Q (.sh (.bl (if ng then !inV v vs else inV v vs)))
    | _, _ => False)
  | .str z, .str y => (match z with
    | ⟨⟨[c]⟩⟩ => Q (.sh (.bl (if ng then !decide (c ∈ y.cps.toList) else decide (c ∈ y.cps.toList))))
    | _ => False)
  | x, .dct kvs => (match kD x with
    | some k => Q (.sh (.bl (if ng then !(vD kvs k).isSome else (vD kvs k).isSome)))
    | none => False)
  | _, _ => False
section
variable {X : Cx} {G : Gh}
def rInA (K : PySem.W.Frag) (ng : Bool) : R2 := fun x y H Q => rIn K ng x y H Q ∨ (∃ (c : Nat) (z : Str), x = .str ⟨#[c]⟩ ∧ y = .str z ∧ Q (.bl (if ng then !decide (c ∈ z.cps.toList) else decide (c ∈ z.cps.toList))) H) ∨ ∃ a o, y = .ref a ∧ DGet H a x o ∧ Q (.bl (if ng then !o.isSome else o.isSome)) H
theorem op_inA (hu : X.A.units + 64 < cLine) : OpR X (compareOp .In) (rInA X.K false) := by
  intro pins s σ H x y v u Q I rx ry h
  rcases h with h | ⟨c, z, rfl, rfl, q⟩ | ⟨a, o, rfl, g, q⟩
  · exact op_in_seq pins s σ H x y v u Q I rx ry h
  · exact op_in_sign pins s σ H _ _ v u Q I rx ry ⟨c, z, rfl, rfl, q⟩
  · cases ry
    exact d_in (by omega) I g rx fun s3 I3 => ⟨.bl o.isSome, H, I3, rfl, q⟩
theorem op_ninA (hu : X.A.units + 64 < cLine) : OpR X (compareOp .NotIn) (rInA X.K true) := by
  intro pins s σ H x y v u Q I rx ry h
  rcases h with h | ⟨c, z, rfl, rfl, q⟩ | ⟨a, o, rfl, g, q⟩
  · exact op_notIn_seq pins s σ H x y v u Q I rx ry h
  · exact op_notIn_sign pins s σ H _ _ v u Q I rx ry ⟨c, z, rfl, rfl, q⟩
  · cases ry
    exact d_notIn (by omega) I g rx fun s3 I3 => ⟨.bl (!o.isSome), H, I3, rfl, q⟩
theorem od_in {K : PySem.W.Frag} (ng : Bool) : OpD K G (rInA K ng) (fIn ng) := by
  intro tmp F env fp σ H da db v u Qd Q S l1 l2 hf k
  unfold fIn at hf
  split at hf
  · rename_i xs
    split at hf
    · rename_i w ws h1 h2
      obtain ⟨rfl, f1⟩ := plain_lk l1 h1
      obtain ⟨a, us, rfl, h3, r3⟩ := l2.lst
      obtain ⟨rfl, f2⟩ := plains_dat r3 h2
      exact .inl ⟨a, us, rfl, .inl (.of h3), f1, f2, k (.sh (.bl _)) _ _ _ Ext.refl S .bl hf⟩
    · exact hf.elim
  · rename_i xs
    split at hf
    · rename_i w ws h1 h2
      obtain ⟨rfl, f1⟩ := plain_lk l1 h1
      obtain ⟨a, us, rfl, h3, r3⟩ := l2.tup
      obtain ⟨rfl, f2⟩ := plains_dat r3 h2
      exact .inl ⟨a, us, rfl, .inr h3, f1, f2, k (.sh (.bl _)) _ _ _ Ext.refl S .bl hf⟩
    · exact hf.elim
  · rename_i z y
    split at hf
    · rename_i c
      exact .inr (.inl ⟨c, y, l1.str, l2.str, k (.sh (.bl _)) _ _ _ Ext.refl S .bl hf⟩)
    · exact hf.elim
  · rename_i kvs
    split at hf
    · rename_i kk hk
      obtain ⟨a, us, rfl, h3, r3⟩ := l2.dct
      have ey := kD_lk l1 hk
      have e : (vD kvs kk).isSome = (valV us kk).isSome := by
        rcases r3.val kk with ⟨g1, g2⟩ | ⟨d2, v2, g1, g2, _⟩
        · rw [g1, g2]; rfl
        · rw [g1, g2]; rfl
      rw [e] at hf
      exact .inr (.inr ⟨a, _, rfl, .inl ⟨us, kk, h3, ey, rfl⟩, k (.sh (.bl _)) _ _ _ Ext.refl S .bl hf⟩)
    · exact hf.elim
  · exact hf.elim
theorem cm_in (hu : X.A.units + 64 < cLine) : Cm X G .In (fIn false) := ⟨_, op_inA hu, od_in false⟩
theorem cm_nin (hu : X.A.units + 64 < cLine) : Cm X G .NotIn (fIn true) := ⟨_, op_ninA hu, od_in true⟩
end
end DL
namespace DLQ
open PySem PySem.SeqAt
open AutoSeq1 (wpAny_loadPart')
open MeetsSeq MeetsSeq2 MeetsSeq3 SeqRoads2
section
variable {P : Program} {W : World} {B : Around} {T : Result → Shared → Prop}
/-- each turn the two lists are read anew; a turn tells yes and goes on, or no -/
def Turns (P : Program) (W : World) (B : Around) (T : Result → Shared → Prop) (p q : Addr) (N : Nat) (J : Nat → Shared → Prop) : Prop :=
  ∀ k z, J k z → ∃ (ps qs : Array Value) (c c2 : Nat), z.heap.get? p = some { cls := .type "list", data := .seq ps c } ∧ z.heap.get? q = some { cls := .type "list", data := .seq qs c2 } ∧ ps.size = N ∧ qs.size = N ∧
    ∀ (a1 : k < ps.size) (a2 : k < qs.size), wpAny (model P W) B.in1 (eqBool ps[k] qs[k]) (fun r z' => (r = true ∧ J (k + 1) z') ∨ (r = false ∧ (∃ (ps qs : Array Value) (c c2 : Nat), z'.heap.get? p = some { cls := .type "list", data := .seq ps c } ∧ z'.heap.get? q = some { cls := .type "list", data := .seq qs c2 } ∧ k < ps.size ∧ k < qs.size) ∧ T (.ok (.ret (.bool false))) z')) (fun e z' => T (.error e) z') z
theorem loopB (p q : Addr) (N : Nat) (J : Nat → Shared → Prop) (ht : Turns P W B T p q N J) (fin : ∀ z, J N z → T (.ok (.ret (.bool true))) z) (m : Nat) :
    ∀ k : Nat, N - k = m → k ≤ N → ∀ z, J k z → wpAny (model P W) B.in1 (Builtin.«list.__eq__.loop» ⟨[.ref p, .ref q, rawInt k, rawInt 2], []⟩) (GQ.FinOf P W B T) (fun e z' => T (.error e) z') z := by
  induction m with
  | zero =>
    intro k hk hle z hJ
    obtain ⟨ps, qs, c, c2, e1, e2, z1, z2, _⟩ := ht _ _ hJ
    have ek : k = N := by omega
    have done : T (.ok (.ret (.bool true))) z := fin z (ek ▸ hJ)
    obtain ⟨hp, g, d, tk, os⟩ := z
    wp_walk using wpAny_loadPart' e1, wpAny_loadPart' e2
    have g1 : ps[((k : Nat) : Int).toNat]? = none := by simp; omega
    have g2 : qs[((k : Nat) : Int).toNat]? = none := by simp; omega
    rw [g1, g2]
    wp_walk using wpAny_loadPart' e1, wpAny_loadPart' e2
    show T (.ok (.ret (.bool (ps.size == qs.size)))) _
    rw [z1, z2]
    simpa using done
  | succ m ih =>
    intro k hk hle z hJ
    obtain ⟨ps, qs, c, c2, e1, e2, z1, z2, turn⟩ := ht _ _ hJ
    have a1 : k < ps.size := by omega
    have a2 : k < qs.size := by omega
    have tn := turn a1 a2
    obtain ⟨hp, g, d, tk, os⟩ := z
    wp_walk using wpAny_loadPart' e1, wpAny_loadPart' e2
    have g1 : ps[((k : Nat) : Int).toNat]? = some ps[k] := by simp [a1]
    have g2 : qs[((k : Nat) : Int).toNat]? = some qs[k] := by simp [a2]
    have ec : ((k : Int) + 1) = ((k + 1 : Nat) : Int) := by omega
    rw [g1, g2]
    refine wpAny_bind (wpAny_mono tn (fun r z2 hz2 => ?_) fun _ _ w => w)
    rcases hz2 with ⟨rfl, hz2⟩ | ⟨rfl, ⟨ps', qs', c', c2', f1, f2, b1, b2⟩, hz2⟩
    · have again := ih (k + 1) (by omega) (by omega) z2 hz2
      obtain ⟨hp2, g2, d2, tk2, os2⟩ := z2
      wp_walk
      rw [ec]
      refine ⟨plainId_quiet plain_eq_loop _, codeAny_builtin entry_eq_loop ?_⟩
      rw [Around.under_plainId plain_eq_loop _]
      exact again
    · obtain ⟨hp2, g2, d2, tk2, os2⟩ := z2
      wp_walk using wpAny_loadPart' f1, wpAny_loadPart' f2
      have g3 : ps'[((k : Nat) : Int).toNat]? = some ps'[k] := by simp [b1]
      have g4 : qs'[((k : Nat) : Int).toNat]? = some qs'[k] := by simp [b2]
      rw [g3, g4]
      wp_walk
      exact hz2
/-- list.__eq__ -/
theorem listB (p q : Addr) (N : Nat) (J : Nat → Shared → Prop) (ht : Turns P W B T p q N J) (fin : ∀ z, J N z → T (.ok (.ret (.bool true))) z) {z : Shared} (hJ : J 0 z) :
    wpAny (model P W) B.in1 (Builtin.«list.__eq__» ⟨[.ref p, .ref q], []⟩) (GQ.FinOf P W B T) (fun e z' => T (.error e) z') z := by
  obtain ⟨ps, qs, c, c2, e1, e2, z1, z2, _⟩ := ht _ _ hJ
  have go := loopB (B := B) (T := T) p q N J ht fin _ 0 rfl (Nat.zero_le _) z hJ
  obtain ⟨hp, g, d, tk, os⟩ := z
  have sub := AutoSeq1.sub_list_list
  have same : ¬ (ps.size != qs.size) = true := by simp [z1, z2]
  wp_walk using wpAny_loadPart' e1, wpAny_loadPart' e2
  refine ⟨plainId_quiet plain_eq_loop _, codeAny_builtin entry_eq_loop ?_⟩
  rw [Around.under_plainId plain_eq_loop _]
  exact go
/-- .. of lists of unlike lengths -/
theorem listNo (p q : Addr) {ps qs : Array Value} {c c2 : Nat} {z : Shared} (e1 : z.heap.get? p = some { cls := .type "list", data := .seq ps c }) (e2 : z.heap.get? q = some { cls := .type "list", data := .seq qs c2 }) (ne : ps.size ≠ qs.size)
    (no : T (.ok (.ret (.bool false))) z) : wpAny (model P W) B.in1 (Builtin.«list.__eq__» ⟨[.ref p, .ref q], []⟩) (GQ.FinOf P W B T) (fun e z' => T (.error e) z') z := by
  obtain ⟨hp, g, d, tk, os⟩ := z
  have sub := AutoSeq1.sub_list_list
  have same : (ps.size != qs.size) = true := by simp [ne]
  wp_walk using wpAny_loadPart' e1, wpAny_loadPart' e2
  exact no
/-- tuple.__eq__ -/
theorem tupB (p q : Addr) (ps qs : Array Value) (c c2 : Nat) (dd dd2 : Option Addr) (sl sl2 : Array (Option Value)) (J : Nat → Shared → Prop)
    (turn : ∀ k (a1 : k < ps.size) (a2 : k < qs.size) z, J k z → wpAny (model P W) B.in1 (eqBool ps[k] qs[k]) (fun r z' => (r = true ∧ J (k + 1) z') ∨ (r = false ∧ T (.ok (.ret (.bool false))) z')) (fun e z' => T (.error e) z') z)
    (fin : ∀ k z, J k z → (k = ps.size ∨ k = qs.size) → k ≤ ps.size → k ≤ qs.size → T (.ok (.ret (.bool (ps.size == qs.size)))) z) {z : Shared} (e1 : z.heap.get? p = some { cls := .type "tuple", dict := dd, data := .seq ps c, slots := sl })
    (e2 : z.heap.get? q = some { cls := .type "tuple", dict := dd2, data := .seq qs c2, slots := sl2 }) (hJ : J 0 z) :
    wpAny (model P W) B.in1 (Builtin.«tuple.__eq__» ⟨[.ref p, .ref q], []⟩) (GQ.FinOf P W B T) (fun e z' => T (.error e) z') z := by
  have sub := AutoSeq1.sub_tuple_tuple
  have hz : (ps.toList.zip qs.toList).length = min ps.size qs.size := by simp
  have hJ0 := hJ
  obtain ⟨hp, g, d, tk, os⟩ := z
  wp_walk using wpAny_loadPart' e1, wpAny_loadPart' e2, wpAny_forIn_list _ (fun rest b z' => b.1 = none ∧ ∃ k, rest = (ps.toList.zip qs.toList).drop k ∧ k ≤ min ps.size qs.size ∧ J k z') _
  case turn =>
    rintro ⟨y, x⟩ rest b z' ⟨hb, k, hr, hk, hI⟩
    have hlt : k < (ps.toList.zip qs.toList).length := by
      rcases Nat.lt_or_ge k (ps.toList.zip qs.toList).length with w | w
      · exact w
      · rw [List.drop_of_length_le w] at hr; cases hr
    have a1 : k < ps.size := by omega
    have a2 : k < qs.size := by omega
    rw [List.drop_eq_getElem_cons hlt] at hr
    injection hr with hyx hrest
    have hy : y = ps[k] := by simpa using congrArg Prod.fst hyx
    have hx : x = qs[k] := by simpa using congrArg Prod.snd hyx
    subst hy hx
    refine wpAny_bind (wpAny_mono (turn k a1 a2 z' hI) (fun r z2 w => ?_) fun _ _ w => w)
    rcases w with ⟨rfl, w⟩ | ⟨rfl, w⟩
    · wp_walk
      exact ⟨rfl, k + 1, hrest, by omega, w⟩
    · wp_walk
      exact w
  case fin =>
    rintro ⟨b1, b2⟩ z' ⟨hb, k, hr, hk, hI⟩
    simp only at hb
    subst hb
    have hge : (ps.toList.zip qs.toList).length ≤ k := by
      rcases Nat.lt_or_ge k (ps.toList.zip qs.toList).length with w | w
      · rw [List.drop_eq_getElem_cons w] at hr; cases hr
      · exact w
    have done := fin k z' hI (by omega) (by omega) (by omega)
    wp_walk
    simpa [Builtin.Tuple.tupleCompareSizes] using done
  case h =>
    exact ⟨rfl, 0, rfl, Nat.zero_le _, hJ0⟩
end
end DLQ
namespace DLQ
open PySem PySem.SeqAt
open AutoSeq1 (wpAny_loadPart')
open MeetsSeq MeetsSeq2 MeetsSeq3 SeqRoads2
section
variable {P : Program} {W : World} {B : Around} {T : Result → Shared → Prop}
/-- each turn the two lists are read anew; a turn tells yes and goes on, or no -/
def TurnsN (P : Program) (W : World) (B : Around) (T : Result → Shared → Prop) (p q : Addr) (N : Nat) (J : Nat → Shared → Prop) : Prop :=
  ∀ k z, J k z → ∃ (ps qs : Array Value) (c c2 : Nat), z.heap.get? p = some { cls := .type "list", data := .seq ps c } ∧ z.heap.get? q = some { cls := .type "list", data := .seq qs c2 } ∧ ps.size = N ∧ qs.size = N ∧
    ∀ (a1 : k < ps.size) (a2 : k < qs.size), wpAny (model P W) B.in1 (eqBool ps[k] qs[k]) (fun r z' => (r = true ∧ J (k + 1) z') ∨ (r = false ∧ (∃ (ps qs : Array Value) (c c2 : Nat), z'.heap.get? p = some { cls := .type "list", data := .seq ps c } ∧ z'.heap.get? q = some { cls := .type "list", data := .seq qs c2 } ∧ k < ps.size ∧ k < qs.size) ∧ T (.ok (.ret (.bool true))) z')) (fun e z' => T (.error e) z') z
theorem loopN (p q : Addr) (N : Nat) (J : Nat → Shared → Prop) (ht : TurnsN P W B T p q N J) (fin : ∀ z, J N z → T (.ok (.ret (.bool false))) z) (m : Nat) :
    ∀ k : Nat, N - k = m → k ≤ N → ∀ z, J k z → wpAny (model P W) B.in1 (Builtin.«list.__eq__.loop» ⟨[.ref p, .ref q, rawInt k, rawInt 3], []⟩) (GQ.FinOf P W B T) (fun e z' => T (.error e) z') z := by
  induction m with
  | zero =>
    intro k hk hle z hJ
    obtain ⟨ps, qs, c, c2, e1, e2, z1, z2, _⟩ := ht _ _ hJ
    have ek : k = N := by omega
    have done : T (.ok (.ret (.bool false))) z := fin z (ek ▸ hJ)
    obtain ⟨hp, g, d, tk, os⟩ := z
    wp_walk using wpAny_loadPart' e1, wpAny_loadPart' e2
    have g1 : ps[((k : Nat) : Int).toNat]? = none := by simp; omega
    have g2 : qs[((k : Nat) : Int).toNat]? = none := by simp; omega
    rw [g1, g2]
    wp_walk using wpAny_loadPart' e1, wpAny_loadPart' e2
    show T (.ok (.ret (.bool (ps.size != qs.size)))) _
    rw [z1, z2]
    simpa using done
  | succ m ih =>
    intro k hk hle z hJ
    obtain ⟨ps, qs, c, c2, e1, e2, z1, z2, turn⟩ := ht _ _ hJ
    have a1 : k < ps.size := by omega
    have a2 : k < qs.size := by omega
    have tn := turn a1 a2
    obtain ⟨hp, g, d, tk, os⟩ := z
    wp_walk using wpAny_loadPart' e1, wpAny_loadPart' e2
    have g1 : ps[((k : Nat) : Int).toNat]? = some ps[k] := by simp [a1]
    have g2 : qs[((k : Nat) : Int).toNat]? = some qs[k] := by simp [a2]
    have ec : ((k : Int) + 1) = ((k + 1 : Nat) : Int) := by omega
    rw [g1, g2]
    refine wpAny_bind (wpAny_mono tn (fun r z2 hz2 => ?_) fun _ _ w => w)
    rcases hz2 with ⟨rfl, hz2⟩ | ⟨rfl, ⟨ps', qs', c', c2', f1, f2, b1, b2⟩, hz2⟩
    · have again := ih (k + 1) (by omega) (by omega) z2 hz2
      obtain ⟨hp2, g2, d2, tk2, os2⟩ := z2
      wp_walk
      rw [ec]
      refine ⟨plainId_quiet plain_eq_loop _, codeAny_builtin entry_eq_loop ?_⟩
      rw [Around.under_plainId plain_eq_loop _]
      exact again
    · obtain ⟨hp2, g2, d2, tk2, os2⟩ := z2
      wp_walk using wpAny_loadPart' f1, wpAny_loadPart' f2
      have g3 : ps'[((k : Nat) : Int).toNat]? = some ps'[k] := by simp [b1]
      have g4 : qs'[((k : Nat) : Int).toNat]? = some qs'[k] := by simp [b2]
      rw [g3, g4]
      wp_walk
      exact hz2
/-- list.__eq__ -/
theorem listN (p q : Addr) (N : Nat) (J : Nat → Shared → Prop) (ht : TurnsN P W B T p q N J) (fin : ∀ z, J N z → T (.ok (.ret (.bool false))) z) {z : Shared} (hJ : J 0 z) :
    wpAny (model P W) B.in1 (Builtin.«list.__ne__» ⟨[.ref p, .ref q], []⟩) (GQ.FinOf P W B T) (fun e z' => T (.error e) z') z := by
  obtain ⟨ps, qs, c, c2, e1, e2, z1, z2, _⟩ := ht _ _ hJ
  have go := loopN (B := B) (T := T) p q N J ht fin _ 0 rfl (Nat.zero_le _) z hJ
  obtain ⟨hp, g, d, tk, os⟩ := z
  have sub := AutoSeq1.sub_list_list
  have same : ¬ (ps.size != qs.size) = true := by simp [z1, z2]
  wp_walk using wpAny_loadPart' e1, wpAny_loadPart' e2
  refine ⟨plainId_quiet plain_eq_loop _, codeAny_builtin entry_eq_loop ?_⟩
  rw [Around.under_plainId plain_eq_loop _]
  exact go
/-- .. of lists of unlike lengths -/
theorem listNoN (p q : Addr) {ps qs : Array Value} {c c2 : Nat} {z : Shared} (e1 : z.heap.get? p = some { cls := .type "list", data := .seq ps c }) (e2 : z.heap.get? q = some { cls := .type "list", data := .seq qs c2 }) (ne : ps.size ≠ qs.size)
    (no : T (.ok (.ret (.bool true))) z) : wpAny (model P W) B.in1 (Builtin.«list.__ne__» ⟨[.ref p, .ref q], []⟩) (GQ.FinOf P W B T) (fun e z' => T (.error e) z') z := by
  obtain ⟨hp, g, d, tk, os⟩ := z
  have sub := AutoSeq1.sub_list_list
  have same : (ps.size != qs.size) = true := by simp [ne]
  wp_walk using wpAny_loadPart' e1, wpAny_loadPart' e2
  exact no
/-- tuple.__eq__ -/
theorem tupN (p q : Addr) (ps qs : Array Value) (c c2 : Nat) (dd dd2 : Option Addr) (sl sl2 : Array (Option Value)) (J : Nat → Shared → Prop)
    (turn : ∀ k (a1 : k < ps.size) (a2 : k < qs.size) z, J k z → wpAny (model P W) B.in1 (eqBool ps[k] qs[k]) (fun r z' => (r = true ∧ J (k + 1) z') ∨ (r = false ∧ T (.ok (.ret (.bool true))) z')) (fun e z' => T (.error e) z') z)
    (fin : ∀ k z, J k z → (k = ps.size ∨ k = qs.size) → k ≤ ps.size → k ≤ qs.size → T (.ok (.ret (.bool (ps.size != qs.size)))) z) {z : Shared} (e1 : z.heap.get? p = some { cls := .type "tuple", dict := dd, data := .seq ps c, slots := sl })
    (e2 : z.heap.get? q = some { cls := .type "tuple", dict := dd2, data := .seq qs c2, slots := sl2 }) (hJ : J 0 z) :
    wpAny (model P W) B.in1 (Builtin.«tuple.__ne__» ⟨[.ref p, .ref q], []⟩) (GQ.FinOf P W B T) (fun e z' => T (.error e) z') z := by
  have sub := AutoSeq1.sub_tuple_tuple
  have hz : (ps.toList.zip qs.toList).length = min ps.size qs.size := by simp
  have hJ0 := hJ
  obtain ⟨hp, g, d, tk, os⟩ := z
  wp_walk using wpAny_loadPart' e1, wpAny_loadPart' e2, wpAny_forIn_list _ (fun rest b z' => b.1 = none ∧ ∃ k, rest = (ps.toList.zip qs.toList).drop k ∧ k ≤ min ps.size qs.size ∧ J k z') _
  case turn =>
    rintro ⟨y, x⟩ rest b z' ⟨hb, k, hr, hk, hI⟩
    have hlt : k < (ps.toList.zip qs.toList).length := by
      rcases Nat.lt_or_ge k (ps.toList.zip qs.toList).length with w | w
      · exact w
      · rw [List.drop_of_length_le w] at hr; cases hr
    have a1 : k < ps.size := by omega
    have a2 : k < qs.size := by omega
    rw [List.drop_eq_getElem_cons hlt] at hr
    injection hr with hyx hrest
    have hy : y = ps[k] := by simpa using congrArg Prod.fst hyx
    have hx : x = qs[k] := by simpa using congrArg Prod.snd hyx
    subst hy hx
    refine wpAny_bind (wpAny_mono (turn k a1 a2 z' hI) (fun r z2 w => ?_) fun _ _ w => w)
    rcases w with ⟨rfl, w⟩ | ⟨rfl, w⟩
    · wp_walk
      exact ⟨rfl, k + 1, hrest, by omega, w⟩
    · wp_walk
      exact w
  case fin =>
    rintro ⟨b1, b2⟩ z' ⟨hb, k, hr, hk, hI⟩
    simp only at hb
    subst hb
    have hge : (ps.toList.zip qs.toList).length ≤ k := by
      rcases Nat.lt_or_ge k (ps.toList.zip qs.toList).length with w | w
      · rw [List.drop_eq_getElem_cons w] at hr; cases hr
      · exact w
    have done := fin k z' hI (by omega) (by omega) (by omega)
    wp_walk
    simpa [Builtin.Tuple.tupleCompareSizes] using done
  case h =>
    exact ⟨rfl, 0, rfl, Nat.zero_le _, hJ0⟩
end
end DLQ
namespace DL
open PySem PySem.Spec PyProof.Rows L2
/-! ### == of data -/
inductive EqA (E : D → D → Bool → Prop) : List D → List D → Bool → Prop
  | nil : EqA E [] [] true
  | l {y : D} {ys : List D} : EqA E [] (y :: ys) false
  | r {x : D} {xs : List D} : EqA E (x :: xs) [] false
  | hit {x y : D} {xs ys : List D} {b : Bool} (h : E x y true) (t : EqA E xs ys b) : EqA E (x :: xs) (y :: ys) b
  | miss {x y : D} {xs ys : List D} (h : E x y false) : EqA E (x :: xs) (y :: ys) false
inductive EqKH (ls : List (Key × D)) : List (Key × D) → Bool → Prop
  | nil : EqKH ls [] true
  | miss {k : Key} {d : D} {r : List (Key × D)} (h : vD ls k = none) : EqKH ls ((k, d) :: r) false
  | hit {k : Key} {d e : D} {v w : V} {r : List (Key × D)} {b : Bool} (h : vD ls k = some e) (p : plainV d = some v) (q : plainV e = some w) (t : EqKH ls r b) : EqKH ls ((k, d) :: r) (eqV v w && b)
def EqK (ks ls : List (Key × D)) (b : Bool) : Prop := (ks.map (·.1)).Nodup ∧ ∃ r, EqKH ls ks r ∧ b = (ks.length == ls.length && r)
def EqO (own : Str → Option Str) (E : D → D → Bool → Prop) (d e : D) (b : Bool) : Prop := ∃ c fs f x, d = .ins c fs ∧ own c = some f ∧ fs.lookup f = some x ∧ ((∃ gs y, e = .ins c gs ∧ gs.lookup f = some y ∧ E x y b ∧ ∀ v w, plainV x = some v → plainV y = some w → scal v w = true) ∨ (b = false ∧ ∀ c' gs, e ≠ .ins c' gs ∧ e ≠ .exc c' gs))
def EqN (own : Str → Option Str) : Nat → D → D → Bool → Prop
  | 0, d, e, b => ∃ v w, plainV d = some v ∧ plainV e = some w ∧ b = eqV v w
  | n + 1, d, e, b => EqN own n d e b ∨ (∃ xs ys, d = .lst xs ∧ e = .lst ys ∧ EqA (EqN own n) xs ys b) ∨ (∃ xs ys, d = .tup xs ∧ e = .tup ys ∧ EqA (EqN own n) xs ys b) ∨ (∃ ks ls, d = .dct ks ∧ e = .dct ls ∧ EqK ks ls b) ∨ EqO own (EqN own n) d e b
theorem eqV_self {v : V} (h : flatV v = true) : eqV v v = true := by
  cases v <;> first | rfl | (simp [eqV]; done) | (simp [flatV] at h; done)
theorem EqA.len {E : D → D → Bool → Prop} {xs ys : List D} {b : Bool} (h : EqA E xs ys b) (hl : xs.length ≠ ys.length) : b = false := by
  induction h with
  | nil => exact absurd rfl hl
  | l => rfl
  | r => rfl
  | hit h t ih => exact ih fun e => hl (by simp [e])
  | miss h => rfl
section
variable {X : Cx} {pins : List (Addr × Obj)} {σ : St} {H : Hp} {s : Shared} {F : Addr → Prop} {own : Str → Option Str}
theorem valV_at {kv : List (Key × V)} (nd : (kv.map (·.1)).Nodup) {k : Key} {v : V} (h : (k, v) ∈ kv) : valV kv k = some v := by
  induction kv with
  | nil => cases h
  | cons p r ih =>
    obtain ⟨k', v'⟩ := p
    have nd' := List.nodup_cons.mp nd
    rcases List.mem_cons.mp h with e | h
    · cases e; simp [valV, List.find?_cons]
    · have ne : k' ≠ k := fun e => nd'.1 (e ▸ List.mem_map.mpr ⟨(k, v), h, rfl⟩)
      have := ih nd'.2 h
      simpa [valV, List.find?_cons, ne] using this
theorem noK (I : Inv X pins σ H s) {a : Addr} {o : Obj} {u : HO} (hk : X.K.lookup a = some o) (h : H a = some u) : False := by
  have := (I.bs a o (I.ok.mod.kin a o hk)).2
  rw [h] at this
  cases this
theorem eqA_same {E : D → D → Bool → Prop} (hE : ∀ x y b v, E x y b → Dat X.K F H x v → Dat X.K F H y v → b = true) {xs ys : List D} {b : Bool} (h : EqA E xs ys b) : ∀ {us : List V}, Dats X.K F H xs us → Dats X.K F H ys us → b = true := by
  induction h with
  | nil => intro us _ _; rfl
  | l => intro us r1 r2; cases r1; cases r2
  | r => intro us r1 r2; cases r1; cases r2
  | hit h t ih =>
    intro us r1 r2
    cases r1 with
    | cons a1 b1 => cases r2 with | cons a2 b2 => exact ih b1 b2
  | miss h =>
    intro us r1 r2
    cases r1 with
    | cons a1 b1 => cases r2 with | cons a2 b2 => exact hE _ _ _ _ h a1 a2
theorem eqN_same (I : Inv X pins σ H s) : ∀ (n : Nat) (d e : D) (b : Bool) (v : V), EqN own n d e b → Dat X.K F H d v → Dat X.K F H e v → b = true
  | 0, d, e, b, v, h, rd, re => by
    obtain ⟨v1, w1, h1, h2, rfl⟩ := h
    obtain ⟨e1, f1⟩ := plain_lk (Or.inl rd) h1
    obtain ⟨e2, f2⟩ := plain_lk (Or.inl re) h2
    rw [← e1, ← e2]
    exact eqV_self (by rw [e1]; exact f1)
  | n + 1, d, e, b, v, h, rd, re => by
    rcases h with h | ⟨xs, ys, rfl, rfl, h⟩ | ⟨xs, ys, rfl, rfl, h⟩ | ⟨ks, ls, rfl, rfl, h⟩ | ⟨c, fs, f, x, rfl, hc, hf, h⟩
    · exact eqN_same I n d e b v h rd re
    · cases rd with
      | lst f1 h1 r1 =>
        cases re with
        | lst f2 h2 r2 =>
          rw [h1] at h2; cases h2
          exact eqA_same (fun x y b v q q1 q2 => eqN_same I n x y b v q q1 q2) h r1 r2
    · obtain ⟨a, us, ev, h1, r1⟩ := Lk.tup (Or.inl rd)
      obtain ⟨a', us', ev', h2, r2⟩ := Lk.tup (Or.inl re)
      rw [ev] at ev'; cases ev'
      rw [I.tuple_inj h2 h1] at r2
      exact eqA_same (fun x y b v q q1 q2 => eqN_same I n x y b v q q1 q2) h r1 r2
    · cases rd with
      | dct f1 h1 r1 =>
        rename_i a kv
        cases re with
        | dct f2 h2 r2 =>
          rw [h1] at h2; cases h2
          obtain ⟨nd, r, hr, rfl⟩ := h
          have el : ks.length = ls.length := by rw [r1.length, r2.length]
          have ndv : (kv.map (·.1)).Nodup := by rw [r1.keys]; exact nd
          have key : ∀ {ks' : List (Key × D)} {r : Bool} {kv' : List (Key × V)}, EqKH ls ks' r → DatK X.K F H ks' kv' → (∀ p ∈ kv', p ∈ kv) → r = true := by
            intro ks' r kv' q
            induction q generalizing kv' with
            | nil => intro _ _; rfl
            | miss h =>
              intro q1 sub
              cases q1 with
              | cons g1 g2 =>
                have := valV_at ndv (sub _ List.mem_cons_self)
                rcases r2.val _ with ⟨z1, z2⟩ | ⟨d2, v2, z1, z2, z3⟩
                · rw [this] at z2; cases z2
                · rw [h] at z1; cases z1
            | hit h p q t ih =>
              intro q1 sub
              cases q1 with
              | cons g1 g2 =>
                have hv := valV_at ndv (sub _ List.mem_cons_self)
                rcases r2.val _ with ⟨z1, z2⟩ | ⟨d2, v2, z1, z2, z3⟩
                · rw [hv] at z2; cases z2
                · rw [h] at z1; cases z1
                  rw [hv] at z2; cases z2
                  obtain ⟨e1, f1⟩ := plain_lk (Or.inl g1) p
                  obtain ⟨e2, f2⟩ := plain_lk (Or.inl z3) q
                  rw [ih g2 fun p hp => sub p (List.mem_cons_of_mem _ hp), ← e1, ← e2, eqV_self (by rw [e1]; exact f1)]; rfl
          rw [key hr r1 fun _ hp => hp, el]
          simp
    · cases rd with
      | ins f1 h1 r1 =>
        rcases h with ⟨gs, y, rfl, hy, h, _⟩ | ⟨rfl, hno⟩
        · cases re with
          | ins f2 h2 r2 =>
            rw [h1] at h2; cases h2
            obtain ⟨u1, l1, q1⟩ := r1.look hf
            obtain ⟨u2, l2, q2⟩ := r2.look hy
            rw [l1] at l2; cases l2
            exact eqN_same I n x y b _ h q1 q2
        · cases re with
          | lst f2 h2 r2 => rw [h1] at h2; cases h2
          | tup f2 h2 r2 => rw [h1] at h2; cases h2
          | tupK hk _ _ _ _ _ => exact (noK I hk h1).elim
          | dct f2 h2 r2 => rw [h1] at h2; cases h2
          | ins f2 h2 r2 => exact absurd rfl (hno _ _).1
          | exc f2 h2 _ _ _ _ => exact absurd rfl (hno _ _).2
end
theorem vw_isSome (x : Option HO) : (vw x).isSome = x.isSome := by
  unfold vw
  split <;> rfl
/-! ### what a comparison leaves -/
structure PQ (X : Cx) (G : Gh) (tmp : List (Addr × HO)) (pins : List (Addr × Obj)) (σ : St) (env : EnvD) (F : Addr → Prop) (H : Hp) (s' : Shared) : Prop where
  ex : ∃ H' F' fp', Inv X pins σ H' s' ∧ Ext F H F' H' ∧ (∀ z o, H z = some o → ¬ F z → H' z = some o) ∧ (∀ z, F' z → F z ∨ H z = none) ∧ SR X.K G tmp F' σ H' env fp'
section
variable {X : Cx} {G : Gh} {tmp : List (Addr × HO)} {pins : List (Addr × Obj)} {σ : St} {H H1 : Hp} {s s' : Shared} {F F1 : Addr → Prop} {own : Str → Option Str} {env : EnvD} {fp : Nat → List Addr}
theorem PQ.refl (I : Inv X pins σ H s) (S : SR X.K G tmp F σ H env fp) : PQ X G tmp pins σ env F H s := ⟨H, F, fp, I, Ext.refl, fun _ _ h _ => h, fun _ f => .inl f, S⟩
theorem PQ.trans (e : Ext F H F1 H1) (st : ∀ z o, H z = some o → ¬ F z → H1 z = some o) (gr : ∀ z, F1 z → F z ∨ H z = none) (q : PQ X G tmp pins σ env F1 H1 s') : PQ X G tmp pins σ env F H s' := by
  obtain ⟨H2, F2, fp2, I2, e2, st2, gr2, S2⟩ := q
  refine ⟨H2, F2, fp2, I2, e.trans e2, fun z o h nf => st2 z o (st z o h nf) fun f => ?_, fun z f => ?_, S2⟩
  · rcases gr z f with g | g
    · exact nf g
    · rw [h] at g; cases g
  · rcases gr2 z f with g | g
    · exact gr z g
    · refine .inr ?_
      cases hz : H z with
      | none => rfl
      | some o =>
        by_cases f0 : F z
        · have k1 := congrArg Option.isSome (e z f0).2.1
          rw [vw_isSome, vw_isSome, hz, g] at k1
          cases k1
        · have := st z o hz f0
          rw [g] at this; cases this
/-- a class's own == -/
def semEq (own : Str → Option Str) (n : Nat) (c : Str) : Sem := fun args Q _ => ∃ fs e b, args = [.im (.ins c fs), .im e] ∧ EqO own (EqN own n) (.ins c fs) e b ∧ Q (.sh (.bl b)) args
structure OwnEq (X : Cx) (own : Str → Option Str) (n k : Nat) (c : Str) : Prop where
  fa : ∃ (fa : Addr) (fd : FuncData) (ps : List Str), FnOk X.prog X.w X.K X.mg X.base (L2.CX X.prog X.w) k fa fd ps (spD X.K 2 (semEq own n c)) ∧ PySem.W.findIn X.K (.ref (He.ga X.K c)) "__eq__" = some (some (.ref fa)) ∧ PySem.W.isFn X.K (.ref fa) = true ∧ Binds X.K fd ps []
  nf : ∀ t ∈ kinds, PySem.W.notFirst X.K (He.ga X.K c) (.type t) = true
  ne : PySem.W.findIn X.K (.ref (He.ga X.K c)) "__ne__" = some (some (.builtin "object.__ne__"))
  ob : PySem.W.mroIn X.K (He.ga X.K c) (.type "object") = some true
theorem own_run {n k : Nat} {c : Str} {fs : List (Str × D)} {A : Around} {fa : Addr} {fd : FuncData} {ps : List Str} (FN : FnOk X.prog X.w X.K X.mg X.base (L2.CX X.prog X.w) k fa fd ps (spD X.K 2 (semEq own n c))) (hb : Binds X.K fd ps []) (hx : Passes (L2.CX X.prog X.w) X E0) (sb : Sub X k A)
    (I : Inv X pins σ H s) (S : SR X.K G tmp F σ H env fp) {e : D} {b : Bool} {x y : V} {u v : Value} (rd : Dat X.K F H (.ins c fs) x) (re : Dat X.K F H e y) (rx : RelV x u) (ry : RelV y v) (hq : EqO own (EqN own n) (.ins c fs) e b) :
    wpAny (model X.prog X.w) A (call (.ref fa) [u, v]) (fun r s' => r = .bool b ∧ PQ X G tmp pins σ env F H s') X.xe s := by
  have av : AVs X.K F H σ [.im (.ins c fs), .im e] [x, y] := .im rd (.im re .nil)
  have hn : (ixs [Ar.im (D.ins c fs), Ar.im e]).Nodup := List.nodup_nil
  have hk : [Ar.im (D.ins c fs), Ar.im e].all (okA env) = true := rfl
  have S1 := S.enter av hn hk
  have hsp : spD X.K 2 (semEq own n c) [x, y] H (fun w H' => w = .bl b ∧ ∃ F' fp', Ext F H F' H' ∧ (∀ z o, H z = some o → ¬ F z → H' z = some o) ∧ (∀ z, F' z → F z ∨ H z = none) ∧ SR X.K G tmp F' σ H' env fp') E0 := by
    refine ⟨rfl, ghOf G.T H F fp [.im (.ins c fs), .im e] [x, y], F, _, _, fun r _ => r = .sh (.bl b), fun _ _ => False, S1, rfl, ⟨fs, e, b, rfl, hq, rfl⟩, fun r w F' σ' H' env' fp' S2 r2 q => ?_, fun _ _ _ _ _ _ _ _ _ _ _ z => z.elim⟩
    subst q
    have r2 : Dat X.K F' H' (.bl b) w := r2
    cases r2
    obtain ⟨e5, S5⟩ := S.leave av hn (Nat.le_refl _) S2
    have hpb : putBack env [Ar.im (D.ins c fs), Ar.im e] (env'.take 2) = env := by
      rcases env'.take 2 with _ | ⟨a, _ | ⟨b, l⟩⟩
      · rfl
      · rfl
      · cases l <;> rfl
    have S5' : SR X.K G tmp F' σ H' (putBack env [Ar.im (D.ins c fs), Ar.im e] (env'.take 2)) _ := S5
    rw [hpb] at S5'
    exact ⟨rfl, F', _, e5, fun z o h nf => S2.keepN z o h (fun m => by cases m) nf, fun z f => S2.grow z f, S5'⟩
  have e0 : Env0 X.prog X.w X.K X.mg X.base A X.stack s H := by
    have g := I.env0
    exact ⟨by rw [sb.fr]; exact g.frames, g.mod, g.bs, g.bsz, g.funs, g.frf, g.hok, g.bare⟩
  have hl := FN.len _ _ _ _ hsp
  refine wpAny_call (codeAny_mono (FN.run A X.stack s H ⟨[u, v], []⟩ [u, v] [x, y] _ E0 sb.room e0 (by
    have g := hb s [u, v] I.kIn (by simpa using hl)
    simpa using g) (.cons rx (.cons ry .nil)) hsp) fun r s' hr => ?_)
  cases r with
  | error er => exact hx pins σ H s er s' I hr
  | ok fl =>
    cases fl with
    | ret w =>
      obtain ⟨z, H', I', rz, ez, F', fp', g1, g2, g3, g4⟩ := I.after hr
      subst ez
      cases rz
      exact ⟨rfl, H', F', fp', I', g1, g2, g3, g4⟩
    | next => exact False.elim hr
    | brk => exact False.elim hr
    | cont => exact False.elim hr
end
end DL
namespace DL
open PySem PySem.Spec PyProof.Rows L2
/-- what may stand at the top of a comparison -/
def LkE (K : PySem.W.Frag) (F : Addr → Prop) (H : Hp) (d : D) (v : V) : Prop := Dat K F H d v ∨ ∃ a, v = .ref a ∧ Own K F H d a ∧ (∀ c fs, d ≠ .ins c fs) ∧ ¬ F a
theorem LkE.lk {K : PySem.W.Frag} {F : Addr → Prop} {H : Hp} {d : D} {v : V} (h : LkE K F H d v) : Lk K F H d v := by
  rcases h with h | ⟨a, e, o, _⟩
  · exact .inl h
  · exact .inr ⟨a, e, o⟩
section
variable {X : Cx} {G : Gh} {tmp : List (Addr × HO)} {pins : List (Addr × Obj)} {σ : St} {H H1 : Hp} {s s' : Shared} {F F1 : Addr → Prop} {own : Str → Option Str} {env : EnvD} {fp : Nat → List Addr}
/-- the list at a is what it was -/
theorem lst_stays {a : Addr} {us : List V} (h : H a = some (.lst us)) (e : Ext F H F1 H1) (st : ∀ z o, H z = some o → ¬ F z → H1 z = some o) : H1 a = some (.lst us) := by
  by_cases f : F a
  · exact vw_of_lst ((e a f).2.1.trans (by rw [h]; rfl))
  · exact st a _ h f
def EqB (X : Cx) (G : Gh) (k : Nat) (E : D → D → Bool → Prop) : Prop := ∀ (A : Around) (pins : List (Addr × Obj)) (s : Shared) (σ : St) (H : Hp) (tmp : List (Addr × HO)) (F : Addr → Prop) (env : EnvD) (fp : Nat → List Addr) (d e : D) (b : Bool) (x y : V) (u v : Value),
  Sub X k A → Inv X pins σ H s → SR X.K G tmp F σ H env fp → Dat X.K F H d x → Dat X.K F H e y → RelV x u → RelV y v → E d e b →
  wpAny (model X.prog X.w) A (eqBool u v) (fun r s' => r = b ∧ PQ X G tmp pins σ env F H s') X.xe s
/-- the state in the middle of a walk over two sequences -/
def Mid (X : Cx) (G : Gh) (tmp : List (Addr × HO)) (pins : List (Addr × Obj)) (σ : St) (env : EnvD) (F : Addr → Prop) (H : Hp) (s' : Shared) (R : (Addr → Prop) → Hp → Prop) : Prop := ∃ H' F' fp', Inv X pins σ H' s' ∧ Ext F H F' H' ∧ (∀ z o, H z = some o → ¬ F z → H' z = some o) ∧ (∀ z, F' z → F z ∨ H z = none) ∧ SR X.K G tmp F' σ H' env fp' ∧ R F' H'
theorem EqA.drop {E : D → D → Bool → Prop} {xs ys : List D} {b : Bool} {k : Nat} (h : EqA E (xs.drop k) (ys.drop k) b) (h1 : k < xs.length) (h2 : k < ys.length) : (E xs[k] ys[k] true ∧ EqA E (xs.drop (k + 1)) (ys.drop (k + 1)) b) ∨ (E xs[k] ys[k] false ∧ b = false) := by
  rw [List.drop_eq_getElem_cons h1, List.drop_eq_getElem_cons h2] at h
  cases h with
  | hit h t => exact .inl ⟨h, t⟩
  | miss h => exact .inr ⟨h, rfl⟩
/-- one step of such a walk -/
theorem seq_step {k : Nat} {E : D → D → Bool → Prop} (hE : EqB X G k E) {A : Around} (sb : Sub X (k + 1) A) {xs ys : List D} {us ws : List V} {its its2 : List Value} {b : Bool} {i : Nat} {s0 : Shared} (r1 : Dats X.K F H xs us) (r2 : Dats X.K F H ys ws) (v1 : Vals us its) (v2 : Vals ws its2)
    (a1 : i < its.toArray.size) (a2 : i < its2.toArray.size) (m : Mid X G tmp pins σ env F H s0 fun _ _ => EqA E (xs.drop i) (ys.drop i) b) :
    wpAny (model X.prog X.w) A.in1 (eqBool its.toArray[i] its2.toArray[i]) (fun r s' => (r = true ∧ Mid X G tmp pins σ env F H s' fun _ _ => EqA E (xs.drop (i + 1)) (ys.drop (i + 1)) b) ∨ (r = false ∧ b = false ∧ PQ X G tmp pins σ env F H s')) X.xe s0 := by
  obtain ⟨H1, F1, fp1, I1, e1, st1, gr1, S1, q⟩ := m
  have n1 : i < its.length := by simpa using a1
  have n2 : i < its2.length := by simpa using a2
  have k1 : i < us.length := by rw [v1.length]; exact n1
  have k2 : i < ws.length := by rw [v2.length]; exact n2
  have l1 : i < xs.length := by rw [r1.length]; exact k1
  have l2 : i < ys.length := by rw [r2.length]; exact k2
  obtain ⟨p1, h1, g1⟩ := v1.get (List.getElem?_eq_getElem k1)
  obtain ⟨p2, h2, g2⟩ := v2.get (List.getElem?_eq_getElem k2)
  obtain ⟨u1, c1, d1⟩ := (r1.mono e1).get (List.getElem?_eq_getElem l1)
  obtain ⟨u2, c2, d2⟩ := (r2.mono e1).get (List.getElem?_eq_getElem l2)
  rw [List.getElem?_eq_getElem k1] at c1; cases c1
  rw [List.getElem?_eq_getElem k2] at c2; cases c2
  have w1 : its.toArray[i] = p1 := by
    have := List.getElem?_eq_getElem n1
    rw [h1] at this
    simpa using (Option.some.inj this).symm
  have w2 : its2.toArray[i] = p2 := by
    have := List.getElem?_eq_getElem n2
    rw [h2] at this
    simpa using (Option.some.inj this).symm
  rw [w1, w2]
  rcases q.drop l1 l2 with ⟨q1, q2⟩ | ⟨q1, q2⟩
  · refine wpAny_mono (hE A.in1 pins s0 σ H1 tmp F1 env fp1 _ _ true _ _ p1 p2 sb.in1 I1 S1 d1 d2 g1 g2 q1) (fun r s' z => ?_) fun _ _ z => z
    obtain ⟨rfl, H2, F2, fp2, I2, e2, st2, gr2, S2⟩ := z
    obtain ⟨H3, F3, fp3, I3, e3, st3, gr3, S3⟩ := PQ.trans e1 st1 gr1 ⟨H2, F2, fp2, I2, e2, st2, gr2, S2⟩
    exact .inl ⟨rfl, H3, F3, fp3, I3, e3, st3, gr3, S3, q2⟩
  · refine wpAny_mono (hE A.in1 pins s0 σ H1 tmp F1 env fp1 _ _ false _ _ p1 p2 sb.in1 I1 S1 d1 d2 g1 g2 q1) (fun r s' z => ?_) fun _ _ z => z
    exact .inr ⟨z.1, q2, PQ.trans e1 st1 gr1 z.2⟩
end
end DL
namespace DL
open PySem PySem.Spec PyProof.Rows L2
section
variable {X : Cx} {G : Gh} {tmp : List (Addr × HO)} {pins : List (Addr × Obj)} {σ : St} {H H1 : Hp} {s s' : Shared} {F F1 : Addr → Prop} {own : Str → Option Str} {env : EnvD} {fp : Nat → List Addr} {k : Nat} {E : D → D → Bool → Prop} {A : Around} {a c : Addr} {xs ys : List D} {us ws : List V} {b : Bool}
theorem PQ.lst (q : PQ X G tmp pins σ env F H s') (h : H a = some (.lst us)) : ∃ (its : List Value) (n : Nat), Vals us its ∧ s'.heap.get? a = some { cls := .type "list", data := .seq its.toArray n } := by
  obtain ⟨H2, F2, fp2, I2, e2, st2, gr2, S2⟩ := q
  obtain ⟨_, its, n, r, _, e⟩ := I2.lstM (lst_stays h e2 st2)
  exact ⟨its, n, r, e⟩
theorem eqA_end {E : D → D → Bool → Prop} {xs ys : List D} {b : Bool} {i : Nat} (h : EqA E (xs.drop i) (ys.drop i) b) (h1 : i ≤ xs.length) (h2 : i ≤ ys.length) (h3 : i = xs.length ∨ i = ys.length) : b = (xs.length == ys.length) := by
  rcases h3 with h3 | h3
  · rw [h3, List.drop_length] at h
    generalize hy : ys.drop xs.length = z at h
    cases h with
    | nil =>
      have := congrArg List.length hy
      rw [List.length_drop] at this
      have e : xs.length = ys.length := by simp at this; omega
      rw [e]; simp
    | l =>
      have := congrArg List.length hy
      rw [List.length_drop] at this
      have e : xs.length ≠ ys.length := by simp at this; omega
      simp [e]
  · rw [h3, List.drop_length] at h
    generalize hy : xs.drop ys.length = z at h
    cases h with
    | nil =>
      have := congrArg List.length hy
      rw [List.length_drop] at this
      have e : xs.length = ys.length := by simp at this; omega
      rw [e]; simp
    | r =>
      have := congrArg List.length hy
      rw [List.length_drop] at this
      have e : xs.length ≠ ys.length := by simp at this; omega
      simp [e]
theorem rc_lst (hE : EqB X G k E) (sb : Sub X (k + 1) A) (I : Inv X pins σ H s) (S : SR X.K G tmp F σ H env fp) (h1 : H a = some (.lst us)) (h2 : H c = some (.lst ws)) (r1 : Dats X.K F H xs us) (r2 : Dats X.K F H ys ws) (q : EqA E xs ys b) :
    wpAny (model X.prog X.w) A (richCompare .Eq (.ref a) (.ref c)) (fun r s' => r = .bool b ∧ PQ X G tmp pins σ env F H s') X.xe s := by
  have mid : ∀ {s0 : Shared} {R : (Addr → Prop) → Hp → Prop}, Mid X G tmp pins σ env F H s0 R → PQ X G tmp pins σ env F H s0 := fun ⟨H1, F1, fp1, I1, e1, st1, gr1, S1, _⟩ => ⟨H1, F1, fp1, I1, e1, st1, gr1, S1⟩
  obtain ⟨its, n, v1, g1⟩ := (PQ.refl I S).lst h1
  obtain ⟨its2, n2, v2, g2⟩ := (PQ.refl I S).lst h2
  refine wpAny_richCompare_same_room (op := .Eq) ⟨_, g1, rfl⟩ ⟨_, g2, rfl⟩ PySem.F.slot_list_eq (GQ.call_here PySem.F.slot_list_eq ⟨_, g1, rfl⟩ PySem.F.entry_list_eq (PySem.F.args_list_eq_2 _ _) ?_) sb.room.units0
  by_cases hl : us.length = ws.length
  · refine DLQ.listB (T := (wants (fun v s' => v ≠ .notImplemented ∧ v = .bool b ∧ PQ X G tmp pins σ env F H s') X.xe)) a c us.length (fun i z => Mid X G tmp pins σ env F H z fun _ _ => EqA E (xs.drop i) (ys.drop i) b) (fun i z m => ?_) (fun z m => ?_) ⟨H, F, fp, I, Ext.refl, fun _ _ h _ => h, fun _ f => .inl f, S, by simpa using q⟩
    · obtain ⟨ps, m1, w1, e1⟩ := (mid m).lst h1
      obtain ⟨qs, m2, w2, e2⟩ := (mid m).lst h2
      refine ⟨_, _, m1, m2, e1, e2, by simp [w1.length], by simp [← w2.length, hl], fun a1 a2 => ?_⟩
      refine wpAny_mono (seq_step hE sb r1 r2 w1 w2 a1 a2 m) (fun r z' y => ?_) fun _ _ y => y
      rcases y with ⟨y1, y2⟩ | ⟨y1, y2, y3⟩
      · exact .inl ⟨y1, y2⟩
      · refine .inr ⟨y1, ?_, (fun y => nomatch y), by rw [y2], y3⟩
        obtain ⟨ps', m1', w1', e1'⟩ := y3.lst h1
        obtain ⟨qs', m2', w2', e2'⟩ := y3.lst h2
        exact ⟨_, _, m1', m2', e1', e2', by simp at a1 ⊢; rw [← w1'.length, w1.length]; exact a1, by simp at a2 ⊢; rw [← w2'.length, w2.length]; exact a2⟩
    · obtain ⟨H1, F1, fp1, I1, e1, st1, gr1, S1, q1⟩ := id m
      have hb := eqA_end q1 (by rw [r1.length]; exact Nat.le_refl _) (by rw [r2.length, hl]; exact Nat.le_refl _) (.inl r1.length.symm)
      have hb : b = true := by rw [hb, r1.length, r2.length, hl]; simp
      exact ⟨(fun y => nomatch y), by rw [hb], mid m⟩
  · have hb : b = false := q.len (by rw [r1.length, r2.length]; exact hl)
    refine DLQ.listNo (T := (wants (fun v s' => v ≠ .notImplemented ∧ v = .bool b ∧ PQ X G tmp pins σ env F H s') X.xe)) a c g1 g2 (by simp [← v1.length, ← v2.length, hl]) ⟨(fun y => nomatch y), by rw [hb], PQ.refl I S⟩
theorem rc_lstN (hE : EqB X G k E) (sb : Sub X (k + 1) A) (I : Inv X pins σ H s) (S : SR X.K G tmp F σ H env fp) (h1 : H a = some (.lst us)) (h2 : H c = some (.lst ws)) (r1 : Dats X.K F H xs us) (r2 : Dats X.K F H ys ws) (q : EqA E xs ys b) :
    wpAny (model X.prog X.w) A (richCompare .NotEq (.ref a) (.ref c)) (fun r s' => r = .bool (!b) ∧ PQ X G tmp pins σ env F H s') X.xe s := by
  have mid : ∀ {s0 : Shared} {R : (Addr → Prop) → Hp → Prop}, Mid X G tmp pins σ env F H s0 R → PQ X G tmp pins σ env F H s0 := fun ⟨H1, F1, fp1, I1, e1, st1, gr1, S1, _⟩ => ⟨H1, F1, fp1, I1, e1, st1, gr1, S1⟩
  obtain ⟨its, n, v1, g1⟩ := (PQ.refl I S).lst h1
  obtain ⟨its2, n2, v2, g2⟩ := (PQ.refl I S).lst h2
  refine wpAny_richCompare_same_room (op := .NotEq) ⟨_, g1, rfl⟩ ⟨_, g2, rfl⟩ PySem.F.slot_list_ne (GQ.call_here PySem.F.slot_list_ne ⟨_, g1, rfl⟩ PySem.F.entry_list_ne (PySem.F.args_list_ne_2 _ _) ?_) sb.room.units0
  by_cases hl : us.length = ws.length
  · refine DLQ.listN (T := (wants (fun v s' => v ≠ .notImplemented ∧ v = .bool (!b) ∧ PQ X G tmp pins σ env F H s') X.xe)) a c us.length (fun i z => Mid X G tmp pins σ env F H z fun _ _ => EqA E (xs.drop i) (ys.drop i) b) (fun i z m => ?_) (fun z m => ?_) ⟨H, F, fp, I, Ext.refl, fun _ _ h _ => h, fun _ f => .inl f, S, by simpa using q⟩
    · obtain ⟨ps, m1, w1, e1⟩ := (mid m).lst h1
      obtain ⟨qs, m2, w2, e2⟩ := (mid m).lst h2
      refine ⟨_, _, m1, m2, e1, e2, by simp [w1.length], by simp [← w2.length, hl], fun a1 a2 => ?_⟩
      refine wpAny_mono (seq_step hE sb r1 r2 w1 w2 a1 a2 m) (fun r z' y => ?_) fun _ _ y => y
      rcases y with ⟨y1, y2⟩ | ⟨y1, y2, y3⟩
      · exact .inl ⟨y1, y2⟩
      · refine .inr ⟨y1, ?_, (fun y => nomatch y), by rw [y2]; rfl, y3⟩
        obtain ⟨ps', m1', w1', e1'⟩ := y3.lst h1
        obtain ⟨qs', m2', w2', e2'⟩ := y3.lst h2
        exact ⟨_, _, m1', m2', e1', e2', by simp at a1 ⊢; rw [← w1'.length, w1.length]; exact a1, by simp at a2 ⊢; rw [← w2'.length, w2.length]; exact a2⟩
    · obtain ⟨H1, F1, fp1, I1, e1, st1, gr1, S1, q1⟩ := id m
      have hb := eqA_end q1 (by rw [r1.length]; exact Nat.le_refl _) (by rw [r2.length, hl]; exact Nat.le_refl _) (.inl r1.length.symm)
      have hb : b = true := by rw [hb, r1.length, r2.length, hl]; simp
      exact ⟨(fun y => nomatch y), by rw [hb]; rfl, mid m⟩
  · have hb : b = false := q.len (by rw [r1.length, r2.length]; exact hl)
    refine DLQ.listNoN (T := (wants (fun v s' => v ≠ .notImplemented ∧ v = .bool (!b) ∧ PQ X G tmp pins σ env F H s') X.xe)) a c g1 g2 (by simp [← v1.length, ← v2.length, hl]) ⟨(fun y => nomatch y), by rw [hb]; rfl, PQ.refl I S⟩
theorem rc_tup (hE : EqB X G k E) (sb : Sub X (k + 1) A) (I : Inv X pins σ H s) (S : SR X.K G tmp F σ H env fp) (h1 : SqT X.K H a us) (h2 : SqT X.K H c ws) (r1 : Dats X.K F H xs us) (r2 : Dats X.K F H ys ws) (q : EqA E xs ys b) :
    wpAny (model X.prog X.w) A (richCompare .Eq (.ref a) (.ref c)) (fun r s' => r = .bool b ∧ PQ X G tmp pins σ env F H s') X.xe s := by
  have mid : ∀ {s0 : Shared} {R : (Addr → Prop) → Hp → Prop}, Mid X G tmp pins σ env F H s0 R → PQ X G tmp pins σ env F H s0 := fun ⟨H1, F1, fp1, I1, e1, st1, gr1, S1, _⟩ => ⟨H1, F1, fp1, I1, e1, st1, gr1, S1⟩
  obtain ⟨its, v1, ⟨⟨cl1, dd1, dt1, sl1⟩, o1, c1, n1, d1⟩, _⟩ := I.tuple h1
  obtain ⟨its2, v2, ⟨⟨cl2, dd2, dt2, sl2⟩, o2, c2, n2, d2⟩, _⟩ := I.tuple h2
  simp only at c1 d1 c2 d2
  subst c1 d1 c2 d2
  refine wpAny_richCompare_same_room (op := .Eq) ⟨_, o1, rfl⟩ ⟨_, o2, rfl⟩ PySem.F.slot_tuple_eq (GQ.call_here PySem.F.slot_tuple_eq ⟨_, o1, rfl⟩ PySem.F.entry_tuple_eq (PySem.F.args_tuple_eq_2 _ _) ?_) sb.room.units0
  refine DLQ.tupB (T := (wants (fun v s' => v ≠ .notImplemented ∧ v = .bool b ∧ PQ X G tmp pins σ env F H s') X.xe)) a c _ _ n1 n2 dd1 dd2 sl1 sl2 (fun i z => Mid X G tmp pins σ env F H z fun _ _ => EqA E (xs.drop i) (ys.drop i) b) (fun i a1 a2 z m => ?_) (fun i z m h3 h4 h5 => ?_) o1 o2 ⟨H, F, fp, I, Ext.refl, fun _ _ h _ => h, fun _ f => .inl f, S, by simpa using q⟩
  · refine wpAny_mono (seq_step hE sb r1 r2 v1 v2 a1 a2 m) (fun r z' y => ?_) fun _ _ y => y
    rcases y with ⟨y1, y2⟩ | ⟨y1, y2, y3⟩
    · exact .inl ⟨y1, y2⟩
    · exact .inr ⟨y1, (fun y => nomatch y), by rw [y2], y3⟩
  · obtain ⟨H1, F1, fp1, I1, e1, st1, gr1, S1, q1⟩ := id m
    have z1 : its.toArray.size = xs.length := by rw [r1.length, v1.length, List.size_toArray]
    have z2 : its2.toArray.size = ys.length := by rw [r2.length, v2.length, List.size_toArray]
    rw [z1, z2] at h3
    rw [z1] at h4
    rw [z2] at h5
    have hb := eqA_end q1 h4 h5 h3
    exact ⟨(fun y => nomatch y), by rw [hb, r1.length, r2.length, v1.length, v2.length]; simp, mid m⟩
theorem rc_tupN (hE : EqB X G k E) (sb : Sub X (k + 1) A) (I : Inv X pins σ H s) (S : SR X.K G tmp F σ H env fp) (h1 : SqT X.K H a us) (h2 : SqT X.K H c ws) (r1 : Dats X.K F H xs us) (r2 : Dats X.K F H ys ws) (q : EqA E xs ys b) :
    wpAny (model X.prog X.w) A (richCompare .NotEq (.ref a) (.ref c)) (fun r s' => r = .bool (!b) ∧ PQ X G tmp pins σ env F H s') X.xe s := by
  have mid : ∀ {s0 : Shared} {R : (Addr → Prop) → Hp → Prop}, Mid X G tmp pins σ env F H s0 R → PQ X G tmp pins σ env F H s0 := fun ⟨H1, F1, fp1, I1, e1, st1, gr1, S1, _⟩ => ⟨H1, F1, fp1, I1, e1, st1, gr1, S1⟩
  obtain ⟨its, v1, ⟨⟨cl1, dd1, dt1, sl1⟩, o1, c1, n1, d1⟩, _⟩ := I.tuple h1
  obtain ⟨its2, v2, ⟨⟨cl2, dd2, dt2, sl2⟩, o2, c2, n2, d2⟩, _⟩ := I.tuple h2
  simp only at c1 d1 c2 d2
  subst c1 d1 c2 d2
  refine wpAny_richCompare_same_room (op := .NotEq) ⟨_, o1, rfl⟩ ⟨_, o2, rfl⟩ PySem.F.slot_tuple_ne (GQ.call_here PySem.F.slot_tuple_ne ⟨_, o1, rfl⟩ PySem.F.entry_tuple_ne (PySem.F.args_tuple_ne_2 _ _) ?_) sb.room.units0
  refine DLQ.tupN (T := (wants (fun v s' => v ≠ .notImplemented ∧ v = .bool (!b) ∧ PQ X G tmp pins σ env F H s') X.xe)) a c _ _ n1 n2 dd1 dd2 sl1 sl2 (fun i z => Mid X G tmp pins σ env F H z fun _ _ => EqA E (xs.drop i) (ys.drop i) b) (fun i a1 a2 z m => ?_) (fun i z m h3 h4 h5 => ?_) o1 o2 ⟨H, F, fp, I, Ext.refl, fun _ _ h _ => h, fun _ f => .inl f, S, by simpa using q⟩
  · refine wpAny_mono (seq_step hE sb r1 r2 v1 v2 a1 a2 m) (fun r z' y => ?_) fun _ _ y => y
    rcases y with ⟨y1, y2⟩ | ⟨y1, y2, y3⟩
    · exact .inl ⟨y1, y2⟩
    · exact .inr ⟨y1, (fun y => nomatch y), by rw [y2]; rfl, y3⟩
  · obtain ⟨H1, F1, fp1, I1, e1, st1, gr1, S1, q1⟩ := id m
    have z1 : its.toArray.size = xs.length := by rw [r1.length, v1.length, List.size_toArray]
    have z2 : its2.toArray.size = ys.length := by rw [r2.length, v2.length, List.size_toArray]
    rw [z1, z2] at h3
    rw [z1] at h4
    rw [z2] at h5
    have hb := eqA_end q1 h4 h5 h3
    exact ⟨(fun y => nomatch y), by rw [hb, r1.length, r2.length, v1.length, v2.length]; simp [bne], mid m⟩
end
end DL
namespace DL
open PySem PySem.Spec PyProof.Rows L2
section
variable {X : Cx} {G : Gh} {tmp : List (Addr × HO)} {pins : List (Addr × Obj)} {σ : St} {H H1 : Hp} {s s' : Shared} {F F1 : Addr → Prop} {own : Str → Option Str} {env : EnvD} {fp : Nat → List Addr} {k n : Nat} {E : D → D → Bool → Prop} {A : Around} {a c : Addr} {xs ys : List D} {us ws : List V} {b : Bool}
/-! ### dicts of plain values -/
theorem hits_of {ls : List (Key × D)} {lv : List (Key × V)} {vb : List (Key × Value)} {A : Around} (rl : DatK X.K F H ls lv) (rb : KV lv vb) : ∀ {ks : List (Key × D)} {r : Bool} {kv : List (Key × V)} {va : List (Key × Value)}, EqKH ls ks r → DatK X.K F H ks kv → KV kv va → PySem.W.KeqHitsP X.prog X.w A s vb va r := by
  intro ks r kv va q
  induction q generalizing kv va with
  | nil => intro q1 q2; cases q1; cases q2; exact .nil
  | @miss k d r h =>
    intro q1 q2
    cases q1 with
    | cons g1 g2 =>
      cases q2 with
      | @cons _ q _ _ h1 t1 =>
        obtain ⟨e1, e2⟩ := h1
        obtain ⟨key, v⟩ := q
        simp only at e1 e2
        subst e1
        refine .miss ?_
        rcases rl.val k with ⟨z1, z2⟩ | ⟨d2, v2, z1, z2, z3⟩
        · exact RelO.none_of (by rw [← z2]; exact rb.val k)
        · rw [h] at z1; cases z1
  | @hit k d e v w r b h p q t ih =>
    intro q1 q2
    cases q1 with
    | cons g1 g2 =>
      cases q2 with
      | @cons _ q' _ _ h1 t1 =>
        obtain ⟨e1, e2⟩ := h1
        obtain ⟨key, u⟩ := q'
        simp only at e1 e2
        subst e1
        rcases rl.val k with ⟨z1, z2⟩ | ⟨d2, v2, z1, z2, z3⟩
        · rw [h] at z1; cases z1
        · rw [h] at z1; cases z1
          obtain ⟨y, hy, ry⟩ := RelO.some_of (v := v2) (o := valueAt vb k) (by rw [← z2]; exact rb.val k)
          obtain ⟨p1, p2⟩ := plain_lk (Or.inl g1) p
          obtain ⟨p3, p4⟩ := plain_lk (Or.inl z3) q
          subst p1 p3
          exact .hit hy (eqAt_V e2 ry p2 p4).eqP (ih g2 t1)
theorem rc_dct {ks ls : List (Key × D)} {kv lv : List (Key × V)} (hu : A.units < cLine) (I : Inv X pins σ H s) (S : SR X.K G tmp F σ H env fp) (h1 : Rd H a (.dK kv)) (h2 : Rd H c (.dK lv)) (r1 : DatK X.K F H ks kv) (r2 : DatK X.K F H ls lv) (q : EqK ks ls b) :
    wpAny (model X.prog X.w) A (richCompare .Eq (.ref a) (.ref c)) (fun r s' => r = .bool b ∧ PQ X G tmp pins σ env F H s') X.xe s := by
  obtain ⟨_, ga, va, ra, da⟩ := dk_rd I.hok h1
  obtain ⟨_, gb, vb, rb, db⟩ := dk_rd I.hok h2
  obtain ⟨nd, r, hr, rfl⟩ := q
  refine PySem.W.rcP_dicts (knd := mixKind X.prog X.w) (r := r) ga gb da db hu (fun _ => hits_of r2 rb hr r1 ra) _ _ ⟨?_, PQ.refl I S⟩
  have l1 : va.length = ks.length := by rw [r1.length]; exact (Paired.length ra).symm
  have l2 : vb.length = ls.length := by rw [r2.length]; exact (Paired.length rb).symm
  rw [l1, l2]
/-! ### own classes -/
theorem looks_lk {d : D} {x : V} {u : Value} (I : Inv X pins σ H s) (l : Lk X.K F H d x) (hd : ∀ c fs, d ≠ .ins c fs ∧ d ≠ .exc c fs) (r : RelV x u) (M : Model) : PySem.W.Looks M s.heap (typeOf u) (.type (kindD d)) ∧ kindD d ∈ kinds := by
  obtain ⟨P, Z, p, _⟩ := kit_of I r (tyX_lk l (fun c fs e => absurd e (hd c fs).1) fun c fs => (hd c fs).2)
  have t := Z.ty M s.heap I.kIn p
  cases d with
  | ins c fs => exact absurd rfl (hd c fs).1
  | exc c fs => exact absurd rfl (hd c fs).2
  | _ => exact ⟨t, by simp [kinds, kindD]⟩
theorem rc_own {k0 : Nat} {ct : Str} {fs : List (Str × D)} {e : D} {x y : V} {u v : Value} (O : OwnEq X own n k0 ct) (hx : Passes (L2.CX X.prog X.w) X E0) (sb : Sub X k0 A) (I : Inv X pins σ H s) (S : SR X.K G tmp F σ H env fp) (rd : Dat X.K F H (.ins ct fs) x) (re : Dat X.K F H e y) (rx : RelV x u) (ry : RelV y v)
    (q : EqO own (EqN own n) (.ins ct fs) e b) : wpAny (model X.prog X.w) A (richCompare .Eq u v) (fun r s' => r = .bool b ∧ PQ X G tmp pins σ env F H s') X.xe s := by
  obtain ⟨⟨fa, fd, ps, FN, hs, hf, hb⟩, nf, _, _⟩ := O
  obtain ⟨a, dx, gs, rfl, ha, _⟩ := Lk.ins (Or.inl rd)
  cases rx
  obtain ⟨mA, J, _⟩ := ins_get I.hok ha
  obtain ⟨od, J, _⟩ := J.look
  obtain ⟨m, hF⟩ := I.fr
  have fin := own_run FN hb hx sb I S rd re (u := .ref a) rfl ry q
  have back : wpAny (model X.prog X.w) A (call (.ref fa) [.ref a, v]) (PySem.W.CmpBack fun r s' => r = .bool b ∧ PQ X G tmp pins σ env F H s') X.xe s := wpAny_mono fin (fun r s' z => by obtain ⟨rfl, z⟩ := z; exact ⟨rfl, z⟩) fun _ _ z => z
  by_cases hi : ∃ c' gs', e = .ins c' gs'
  · obtain ⟨c', gs', rfl⟩ := hi
    have ec : c' = ct := by
      obtain ⟨c0, fs0, f0, x0, e0, _, _, h0⟩ := q
      cases e0
      rcases h0 with ⟨g0, y0, e1, _⟩ | ⟨_, h0⟩
      · cases e1; rfl
      · exact absurd rfl (h0 _ _).1
    subst ec
    obtain ⟨a2, dx2, gs2, rfl, ha2, _⟩ := Lk.ins (Or.inl re)
    cases ry
    obtain ⟨mB, J2, _⟩ := ins_get I.hok ha2
    obtain ⟨od2, J2, _⟩ := J2.look
    exact PySem.W.cmp_K (op := .Eq) (tb := .ref (He.ga X.K c')) sb.room.units0 hF I.ok.mod.kin J J2.type (by simp [PySem.W.notFirst]) hs hf back
  · have ne : ∀ c fs, e ≠ .ins c fs ∧ e ≠ .exc c fs := by
      obtain ⟨c0, fs0, f0, y0, e0, _, _, h0⟩ := q
      rcases h0 with ⟨g0, y0, e1, _⟩ | ⟨_, h0⟩
      · exact absurd ⟨_, _, e1⟩ hi
      · exact h0
    obtain ⟨t1, t2⟩ := looks_lk I (Or.inl re) ne ry (model X.prog X.w)
    exact PySem.W.cmp_K (op := .Eq) sb.room.units0 hF I.ok.mod.kin J t1 (nf _ t2) hs hf back
end
/-! ### .. at every level -/
section
variable {X : Cx} {G : Gh} {own : Str → Option Str}
theorem eqN_mono : ∀ {n : Nat} {d e : D} {b : Bool}, EqN own n d e b → EqN own (n + 1) d e b := fun h => .inl h
/-- what is known of the own classes' == -/
def OwnAll (X : Cx) (own : Str → Option Str) (n k0 : Nat) : Prop := ∀ m, m < n → ∀ c, (own c).isSome = true → OwnEq X own m k0 c
theorem eqB_N {k0 : Nat} (hx : Passes (L2.CX X.prog X.w) X E0) : ∀ n : Nat, OwnAll X own n k0 → EqB X G (n + k0) (EqN own n)
  | 0, _ => by
    intro A pins s σ H tmp F env fp d e b x y u v sb I S rd re rx ry q
    obtain ⟨v1, w1, h1, h2, rfl⟩ := q
    obtain ⟨rfl, f1⟩ := plain_lk (Or.inl rd) h1
    obtain ⟨rfl, f2⟩ := plain_lk (Or.inl re) h2
    exact (eqAt_V rx ry f1 f2) X.prog X.w X.xe _ ⟨rfl, PQ.refl I S⟩
  | n + 1, O => by
    have ih := eqB_N (k0 := k0) hx n fun m hm => O m (Nat.lt_succ_of_lt hm)
    intro A pins s σ H tmp F env fp d e b x y u v sb I S rd re rx ry q
    have sb1 : Sub X (n + k0 + 1) A := sb.mono (by omega)
    have two : ∀ {p r : Addr}, x = .ref p → y = .ref r → (p ≠ r → wpAny (model X.prog X.w) A (richCompare .Eq (.ref p) (.ref r)) (fun r s' => r = .bool b ∧ PQ X G tmp pins σ env F H s') X.xe s) → wpAny (model X.prog X.w) A (eqBool u v) (fun r s' => r = b ∧ PQ X G tmp pins σ env F H s') X.xe s := by
      intro p r ex ey h
      subst ex ey
      cases rx
      cases ry
      by_cases e : p = r
      · subst e
        have eb := eqN_same I (n + 1) d e b _ q rd re
        subst eb
        exact SeqAt.EqAt.same (A := A) (s := s) (.ref p) X.prog X.w X.xe _ ⟨rfl, PQ.refl I S⟩
      · exact GQ.eqBool_refG e (wpAny_mono (h e) (fun r s' z => ⟨b, z.1, rfl, z.2⟩) fun _ _ z => z)
    have q0 := q
    rcases q with q | ⟨xs, ys, rfl, rfl, q⟩ | ⟨xs, ys, rfl, rfl, q⟩ | ⟨ks, ls, rfl, rfl, q⟩ | q
    · exact ih A pins s σ H tmp F env fp d e b x y u v (sb.mono (by omega)) I S rd re rx ry q
    · obtain ⟨p, us, e1, h1, r1⟩ := Lk.lst (Or.inl rd)
      obtain ⟨r, ws, e2, h2, r2⟩ := Lk.lst (Or.inl re)
      exact two e1 e2 fun _ => rc_lst ih sb1 I S h1 h2 r1 r2 q
    · obtain ⟨p, us, e1, h1, r1⟩ := Lk.tup (Or.inl rd)
      obtain ⟨r, ws, e2, h2, r2⟩ := Lk.tup (Or.inl re)
      exact two e1 e2 fun _ => rc_tup ih sb1 I S h1 h2 r1 r2 q
    · obtain ⟨p, us, e1, h1, r1⟩ := Lk.dct (Or.inl rd)
      obtain ⟨r, ws, e2, h2, r2⟩ := Lk.dct (Or.inl re)
      exact two e1 e2 fun _ => rc_dct sb.room.units0 I S h1 h2 r1 r2 q
    · obtain ⟨c, fs, f, x0, rfl, hc, _⟩ := id q
      have ow := O n (Nat.lt_succ_self _) c (by rw [hc]; rfl)
      obtain ⟨p, dx, gs, e1, h1, r1⟩ := Lk.ins (Or.inl rd)
      have key : wpAny (model X.prog X.w) A (richCompare .Eq u v) (fun r s' => r = .bool b ∧ PQ X G tmp pins σ env F H s') X.xe s := rc_own ow hx (sb.mono (by omega)) I S rd re rx ry q
      -- the same object, or another thing
      by_cases ey : y = .ref p
      · exact two e1 ey fun z => absurd rfl z
      · subst e1
        cases rx
        unfold eqBool
        refine wpAny_holding (wpAny_ite_split (fun hab => ?_) fun _ => ?_)
        · have ev := eq_of_beq hab
          rw [← ev] at ry
          have : y = .ref p := RelV.inj ry (show RelV (.ref p) (.ref p) from rfl)
          exact absurd this ey
        · refine wpAny_bind (wpAny_mono key (fun r s' z => ?_) fun _ _ z => z)
          obtain ⟨rfl, z⟩ := z
          exact wpAny_truthy_bool ⟨rfl, z⟩
end
end DL
namespace DL
open PySem PySem.Spec PyProof.Rows L2
section
variable {prog : Program} {w : World} {A : Around} {E : Value → Shared → Prop} {s : Shared} {K : PySem.W.Frag} {x C f : Addr} {ox : Obj} {od : Option Obj} {v tb : Value}
/-- x != v, x of an own class with its own == -/
theorem ne_entry (hu : A.units < cLine) (X : K.In s.heap) (I : PySem.W.InstAt s.heap x ox C od) (hs : PySem.W.findIn K (.ref C) "__eq__" = some (some (.ref f))) (hf : PySem.W.isFn K (.ref f) = true) {Q : Fin → Shared → Prop}
    (h : wpAny (model prog w) A (call (.ref f) [.ref x, v]) (fun r s' => ∃ b, r = .bool b ∧ Q (.done (.ret (.bool (!b)))) s') E s) : wpAny (model prog w) A (Builtin.«object.__ne__» ⟨[.ref x, v], []⟩) Q E s := by
  unfold Builtin.«object.__ne__»
  repeat (first
    | with_reducible refine wpAny_cRoomFor hu ?_
    | (refine wpAny_bind (m := callSpecialIfBound? (.ref x) (Str.ofString "__eq__") [v]) (PySem.W.ifBound_K X I hs hf (wpAny_mono h (fun r s' hr => by
        obtain ⟨b, rfl, hq⟩ := hr
        repeat (first | exact hq | exact wpAny_pure hq | exact wpAny_truthy_bool hq | (refine wpAny_bind (m := truthy (.bool _)) (wpAny_truthy_bool ?_)) | wp_step)) fun _ _ e => e)))
    | wp_step)
theorem ne_bound {M : Model} {args : List Value} {Q : Option Value → Shared → Prop} (X : K.In s.heap) (I : PySem.W.InstAt s.heap x ox C od) (hs : PySem.W.findIn K (.ref C) "__ne__" = some (some (.builtin "object.__ne__")))
    (h : wpAny M A (call (.builtin "object.__ne__") (.ref x :: args)) (fun r => Q (some r)) E s) : wpAny M A (callSpecialIfBound? (.ref x) "__ne__" args) Q E s := by
  have fin : wpAny M A (call (.builtin "object.__ne__") ([.ref x] ++ args) >>= fun r => pure (some r)) Q E s := wpAny_bind (wpAny_mono h (fun r z q => wpAny_pure q) fun _ _ q => q)
  simp only [callSpecialIfBound?, bindSpecialIfBound?]
  refine wpAny_holding (wpAny_bind (wpAny_bind (wpAny_bind (I.type.here ((PySem.W.looks_findIn X hs).here (wpAny_bind (wpAny_askSetting (wpAny_ite ?_))))))))
  split
  · exact wpAny_bind (wpAny_of_eq (PySem.F.cmp_object.ne.bind _) (wpAny_pure (by exact fin)))
  · exact wpAny_tryCatch (wpAny_bind (wpAny_of_eq (PySem.F.cmp_object.ne.bind _) (wpAny_pure (by exact fin))))
theorem rc_neOwn {Q : Value → Shared → Prop} (hu : A.units + 1 < cLine) (X : K.In s.heap) (I : PySem.W.InstAt s.heap x ox C od) (hv : PySem.W.Looks (model prog w) s.heap (typeOf v) tb) (hn : PySem.W.notFirst K C tb = true) (hm : PySem.W.mroIn K C (.type "object") = some true)
    (h1 : PySem.W.findIn K (.ref C) "__ne__" = some (some (.builtin "object.__ne__"))) (hs : PySem.W.findIn K (.ref C) "__eq__" = some (some (.ref f))) (hf : PySem.W.isFn K (.ref f) = true)
    (h : wpAny (model prog w) A.in1 (call (.ref f) [.ref x, v]) (fun r s' => ∃ b, r = .bool b ∧ Q (.bool (!b)) s') E s) : wpAny (model prog w) A (richCompare .NotEq (.ref x) v) Q E s := by
  have one : wpAny (model prog w) A (tryCompare (.ref x) "__ne__" v) (fun r s' => ∃ u, r = some u ∧ Q u s') E s := by
    unfold tryCompare
    refine wpAny_bind (ne_bound X I h1 (wpAny_call (codeAny_call_builtin PySem.F.cmp_object.ne.plain PySem.F.cmpEntry_ne (PySem.W.check_slot PySem.F.cmpKind_ne PySem.F.cmpSplit_ne (I.type.andThen (PySem.W.looks_mroIn X hm)) (PySem.F.cmpArgs_ne _ _) (ne_entry (A := A.in1) hu X I hs hf (wpAny_mono h (fun r s' z => ?_) fun _ _ z => z))))))
    obtain ⟨b, rfl, z⟩ := z
    first | exact ⟨b, rfl, wpAny_pure ⟨_, rfl, z⟩⟩ | exact ⟨b, rfl, wpAny_pure (wpAny_pure ⟨_, rfl, z⟩)⟩
  simp only [richCompare, cmpInfo_NotEq, oneThing_ref]
  refine wpAny_holding (wpAny_bind (wpAny_cRoomFor (by omega) ?_))
  refine wpAny_bind (I.type.here (wpAny_bind (hv.here ?_)))
  split
  · rename_i q
    have e : PySem.W.subIn K tb (.ref C) = some false := by
      rcases Bool.or_eq_true_iff.mp hn with e | e
      · rw [beq_iff_eq.mp e] at q; simp at q
      · exact beq_iff_eq.mp e
    refine wpAny_bind ((PySem.W.looks_subIn X e).here ?_)
    simp only [Bool.false_eq_true, if_false]
    refine wpAny_bind (wpAny_mono one (fun r s' z => ?_) fun _ _ e => e)
    obtain ⟨u, rfl, hq⟩ := z
    exact wpAny_pure hq
  · refine wpAny_bind (wpAny_pure ?_)
    simp only [Bool.false_eq_true, if_false]
    refine wpAny_bind (wpAny_mono one (fun r s' z => ?_) fun _ _ e => e)
    obtain ⟨u, rfl, hq⟩ := z
    exact wpAny_pure hq
end
end DL
namespace DL
open PySem PySem.Spec PyProof.Rows L2
def isIns : D → Bool
  | .ins _ _ => true
  | _ => false
/-- what may be compared at the top -/
def topE (d e : D) : Prop := ∀ v w, plainV d = some v → plainV e = some w → scal v w = true
def topN (d e : D) : Prop := topE d e ∧ ∀ kvs, d ≠ .dct kvs
theorem scal_eq {v w : V} (f : flatV v = true) (h : scal v w = true) : decide (v = w) = eqV v w := by
  cases v <;> cases w <;> first | exact dec_bl | exact dec_int | exact dec_str | (exact absurd f Bool.false_ne_true) | (exact absurd h Bool.false_ne_true) | (simp [eqV]; done)
section
variable {X : Cx} {G : Gh} {own : Str → Option Str} {k0 : Nat}
theorem rc_topEq (hx : Passes (L2.CX X.prog X.w) X E0) : ∀ n : Nat, OwnAll X own n k0 → ∀ (pins : List (Addr × Obj)) (s : Shared) (σ : St) (H : Hp) (tmp : List (Addr × HO)) (F : Addr → Prop) (env : EnvD) (fp : Nat → List Addr) (d e : D) (b : Bool) (x y : V) (u v : Value), Room (n + k0) X.A → Inv X pins σ H s → SR X.K G tmp F σ H env fp →
    LkE X.K F H d x → LkE X.K F H e y → (isIns d = true → Dat X.K F H e y) → RelV x u → RelV y v → EqN own n d e b → topE d e → wpAny (model X.prog X.w) X.A (richCompare .Eq u v) (fun r s' => r = .bool b ∧ PQ X G tmp pins σ env F H s') X.xe s
  | 0, _ => by
    intro pins s σ H tmp F env fp d e b x y u v hr I S ld le hi rx ry q ht
    obtain ⟨v1, w1, h1, h2, rfl⟩ := q
    obtain ⟨rfl, f1⟩ := plain_lk ld.lk h1
    obtain ⟨rfl, f2⟩ := plain_lk le.lk h2
    have sc := ht _ _ h1 h2
    refine wpAny_mono (op_eq pins s σ H x y u v (fun z H' => z = .bl (decide (x = y)) ∧ H' = H) I rx ry ⟨sc, rfl, rfl⟩) (fun r s' z => ?_) fun _ _ z => z
    obtain ⟨z, H', I', rz, rfl, rfl⟩ := z
    cases rz
    exact ⟨by rw [scal_eq f1 sc], PQ.refl I' S⟩
  | n + 1, O => by
    have O' : OwnAll X own n k0 := fun m hm => O m (Nat.lt_succ_of_lt hm)
    have ih := rc_topEq hx n O'
    have hE := eqB_N (G := G) (k0 := k0) hx n O'
    intro pins s σ H tmp F env fp d e b x y u v hr I S ld le hi rx ry q ht
    have sb1 : Sub X (n + k0 + 1) X.A := ⟨hr.mono (by omega), rfl⟩
    rcases q with q | ⟨xs, ys, rfl, rfl, q⟩ | ⟨xs, ys, rfl, rfl, q⟩ | ⟨ks, ls, rfl, rfl, q⟩ | q
    · exact ih _ _ _ _ _ _ _ _ _ _ _ _ _ _ _ (hr.mono (by omega)) I S ld le hi rx ry q ht
    · obtain ⟨p, us, rfl, h1, r1⟩ := ld.lk.lst
      obtain ⟨r, ws, rfl, h2, r2⟩ := le.lk.lst
      cases rx
      cases ry
      exact rc_lst hE sb1 I S h1 h2 r1 r2 q
    · obtain ⟨p, us, rfl, h1, r1⟩ := ld.lk.tup
      obtain ⟨r, ws, rfl, h2, r2⟩ := le.lk.tup
      cases rx
      cases ry
      exact rc_tup hE sb1 I S h1 h2 r1 r2 q
    · obtain ⟨p, us, rfl, h1, r1⟩ := ld.lk.dct
      obtain ⟨r, ws, rfl, h2, r2⟩ := le.lk.dct
      cases rx
      cases ry
      exact rc_dct hr.units0 I S h1 h2 r1 r2 q
    · obtain ⟨c, fs, f, x0, rfl, hc, _⟩ := id q
      have ow := O n (Nat.lt_succ_self _) c (by rw [hc]; rfl)
      have rd : Dat X.K F H (.ins c fs) x := by
        rcases ld with z | ⟨_, _, _, z, _⟩
        · exact z
        · exact absurd rfl (z _ _)
      have re := hi rfl
      exact rc_own ow hx ⟨hr.mono (by omega), rfl⟩ I S rd re rx ry q
theorem rc_topNotEq (hx : Passes (L2.CX X.prog X.w) X E0) : ∀ n : Nat, OwnAll X own n k0 → ∀ (pins : List (Addr × Obj)) (s : Shared) (σ : St) (H : Hp) (tmp : List (Addr × HO)) (F : Addr → Prop) (env : EnvD) (fp : Nat → List Addr) (d e : D) (b : Bool) (x y : V) (u v : Value), Room (n + k0) X.A → Inv X pins σ H s → SR X.K G tmp F σ H env fp →
    LkE X.K F H d x → LkE X.K F H e y → (isIns d = true → Dat X.K F H e y) → RelV x u → RelV y v → EqN own n d e b → topN d e → wpAny (model X.prog X.w) X.A (richCompare .NotEq u v) (fun r s' => r = .bool (!b) ∧ PQ X G tmp pins σ env F H s') X.xe s
  | 0, _ => by
    intro pins s σ H tmp F env fp d e b x y u v hr I S ld le hi rx ry q ht
    obtain ⟨v1, w1, h1, h2, rfl⟩ := q
    obtain ⟨rfl, f1⟩ := plain_lk ld.lk h1
    obtain ⟨rfl, f2⟩ := plain_lk le.lk h2
    have sc := ht.1 _ _ h1 h2
    refine wpAny_mono (op_ne pins s σ H x y u v (fun z H' => z = .bl (!decide (x = y)) ∧ H' = H) I rx ry ⟨sc, rfl, rfl⟩) (fun r s' z => ?_) fun _ _ z => z
    obtain ⟨z, H', I', rz, rfl, rfl⟩ := z
    cases rz
    exact ⟨by rw [scal_eq f1 sc], PQ.refl I' S⟩
  | n + 1, O => by
    have O' : OwnAll X own n k0 := fun m hm => O m (Nat.lt_succ_of_lt hm)
    have ih := rc_topNotEq hx n O'
    have hE := eqB_N (G := G) (k0 := k0) hx n O'
    intro pins s σ H tmp F env fp d e b x y u v hr I S ld le hi rx ry q ht
    have sb1 : Sub X (n + k0 + 1) X.A := ⟨hr.mono (by omega), rfl⟩
    rcases q with q | ⟨xs, ys, rfl, rfl, q⟩ | ⟨xs, ys, rfl, rfl, q⟩ | ⟨ks, ls, rfl, rfl, q⟩ | q
    · exact ih _ _ _ _ _ _ _ _ _ _ _ _ _ _ _ (hr.mono (by omega)) I S ld le hi rx ry q ht
    · obtain ⟨p, us, rfl, h1, r1⟩ := ld.lk.lst
      obtain ⟨r, ws, rfl, h2, r2⟩ := le.lk.lst
      cases rx
      cases ry
      exact rc_lstN hE sb1 I S h1 h2 r1 r2 q
    · obtain ⟨p, us, rfl, h1, r1⟩ := ld.lk.tup
      obtain ⟨r, ws, rfl, h2, r2⟩ := le.lk.tup
      cases rx
      cases ry
      exact rc_tupN hE sb1 I S h1 h2 r1 r2 q
    · exact absurd rfl (ht.2 ks)
    · obtain ⟨c, fs, f, x0, rfl, hc, _⟩ := id q
      have ow := O n (Nat.lt_succ_self _) c (by rw [hc]; rfl)
      have rd : Dat X.K F H (.ins c fs) x := by
        rcases ld with z | ⟨_, _, _, z, _⟩
        · exact z
        · exact absurd rfl (z _ _)
      have re := hi rfl
      obtain ⟨⟨fa, fd, ps, FN, hs, hf, hb⟩, nf, hne, hob⟩ := ow
      obtain ⟨a, dx, gs, rfl, ha, _⟩ := Lk.ins (Or.inl rd)
      cases rx
      obtain ⟨mA, J, _⟩ := ins_get I.hok ha
      obtain ⟨od, J, _⟩ := J.look
      have sb : Sub X k0 X.A.in1 := ⟨(Room.in1 (hr.mono (j := k0 + 1) (by omega))), rfl⟩
      have fin := own_run FN hb hx sb I S rd re (u := .ref a) rfl ry q
      have back : wpAny (model X.prog X.w) X.A.in1 (call (.ref fa) [.ref a, v]) (fun r s' => ∃ b', r = .bool b' ∧ (Value.bool (!b') = .bool (!b) ∧ PQ X G tmp pins σ env F H s')) X.xe s := wpAny_mono fin (fun r s' z => ⟨b, z.1, rfl, z.2⟩) fun _ _ z => z
      have hu : X.A.units + 1 < cLine := by have := hr.units; omega
      by_cases hi : ∃ c' gs', e = .ins c' gs'
      · obtain ⟨c', gs', rfl⟩ := hi
        have ec : c' = c := by
          obtain ⟨c0, fs0, f0, y0, e0, _, _, h0⟩ := q
          cases e0
          rcases h0 with ⟨g0, y0, e1, _⟩ | ⟨_, h0⟩
          · cases e1; rfl
          · exact absurd rfl (h0 _ _).1
        subst ec
        obtain ⟨a2, dx2, gs2, rfl, ha2, _⟩ := Lk.ins (Or.inl re)
        cases ry
        obtain ⟨mB, J2, _⟩ := ins_get I.hok ha2
        obtain ⟨od2, J2, _⟩ := J2.look
        exact rc_neOwn hu I.kIn J J2.type (by simp [PySem.W.notFirst]) hob hne hs hf back
      · have ne : ∀ c fs, e ≠ .ins c fs ∧ e ≠ .exc c fs := by
          obtain ⟨c0, fs0, f0, y0, e0, _, _, h0⟩ := q
          rcases h0 with ⟨g0, y0, e1, _⟩ | ⟨_, h0⟩
          · exact absurd ⟨_, _, e1⟩ hi
          · exact h0
        obtain ⟨t1, t2⟩ := looks_lk I (Or.inl re) ne ry (model X.prog X.w)
        exact rc_neOwn hu I.kIn J t1 (nf _ t2) hob hne hs hf back

/-- for the two sides: the datum, and whether it is shared -/
def pkT (env : EnvD) : R → Option (D × Bool)
  | .sh d => some (d, true)
  | .fr d => some (d, true)
  | .br i => (pk env (.br i)).map fun d => (d, false)
def wEqX (top : D → D → Prop) (ng : Bool) (own : Str → Option Str) (n : Nat) (wa wb : WE) : WE := fun env Q => wa env fun ra env1 => wb env1 fun rb env2 => match pkT env2 ra, pkT env2 rb with
  | some (da, ta), some (db, tb) => (isIns da = true → ta = true ∧ tb = true) ∧ (isIns db = true → tb = true) ∧ top da db ∧ ∃ b, EqN own n da db b ∧ Q (.sh (.bl (if ng then !b else b))) env2
  | _, _ => False
def wEq := wEqX topE false
def wNe := wEqX topN true
theorem LkE.of {K : PySem.W.Frag} {tmp : List (Addr × HO)} {F : Addr → Prop} {σ : St} {H : Hp} {env : EnvD} {fp : Nat → List Addr} (S : SR K G tmp F σ H env fp) {v : V} {r : R} {d : D} {t : Bool} (h : RV K G tmp F σ H env fp v r.hold) (e : pkT env r = some (d, t)) (hi : isIns d = true → t = true) : LkE K F H d v ∧ (t = true → Dat K F H d v) := by
  cases r with
  | sh d' => cases e; exact ⟨.inl h, fun _ => h⟩
  | fr d' => cases e; exact ⟨.inl h, fun _ => h⟩
  | br i =>
    obtain ⟨d', h1, h2⟩ := Option.map_eq_some_iff.mp (show (pk env (.br i)).map (fun d => (d, false)) = some (d, t) from e)
    cases h2
    obtain ⟨a, h3, h4, ow, _⟩ := S.slot h1
    have h : σ[i]? = some (some v) := h
    rw [h] at h3; cases h3
    refine ⟨.inr ⟨a, rfl, ow, fun c fs z => ?_, S.nf i a (by rw [h4]; simp)⟩, fun z => by cases z⟩
    subst z
    exact absurd (hi rfl) (by decide)
variable {a b : Expr} {wa wb : WE} {pos : Pos} {n : Nat}
theorem pc_Eq (hx : Passes (L2.CX X.prog X.w) X E0) (O : OwnAll X own n k0) (hr : Room (n + k0) X.A) (ha : DE X G a wa) (hb : DE X G b wb) : PC X .Eq a b (lift X.K G (wEq own n wa wb)) := by
  refine ⟨fun pins s σ H Q I h => ?_⟩
  obtain ⟨tmp, F, env, fp, Qd, S, h, k⟩ := h
  have h2 : lift X.K G wa σ H fun x H1 => lift X.K G wb σ H1 fun y H2 => ∃ F2 env2 fp2 ra rb, Ext F H F2 H2 ∧ SR X.K G tmp F2 σ H2 env2 fp2 ∧ RV X.K G tmp F2 σ H2 env2 fp2 x ra.hold ∧ RV X.K G tmp F2 σ H2 env2 fp2 y rb.hold ∧ (match pkT env2 ra, pkT env2 rb with
      | some (da, ta), some (db, tb) => (isIns da = true → ta = true ∧ tb = true) ∧ (isIns db = true → tb = true) ∧ topE da db ∧ ∃ b, EqN own n da db b ∧ Qd (.sh (.bl (if false then !b else b))) env2
      | _, _ => False) := lift2 S h fun ra rb env2 x y H2 F2 fp2 e2 S2 r1 r2 q => ⟨F2, env2, fp2, ra, rb, e2, S2, r1, r2, q⟩
  refine thn (ha.run pins s σ H _ I h2) fun v s1 ⟨x, H1, I1, rx, q1⟩ => ?_
  refine thn (hb.run pins s1 σ H1 _ I1 q1) fun u s2 ⟨y, H2, I2, ry, F2, env2, fp2, ra, rb, e2, S2, r1, r2, q⟩ => ?_
  split at q
  · rename_i da ta db tb h3 h4
    obtain ⟨g1, g2, g3, b, g4, g5⟩ := q
    obtain ⟨l1, m1⟩ := LkE.of S2 r1 h3 fun z => (g1 z).1
    obtain ⟨l2, m2⟩ := LkE.of S2 r2 h4 g2
    refine wpAny_mono (rc_topEq hx n O _ _ _ _ _ _ _ _ _ _ _ _ _ _ _ hr I2 S2 l1 l2 (fun z => m2 (g1 z).2) rx ry g4 g3) (fun r s3 z => ?_) fun _ _ z => z
    obtain ⟨rfl, H3, F3, fp3, I3, e3, _, _, S3⟩ := z
    exact ⟨.bl b, H3, I3, rfl, k (.sh (.bl _)) _ _ _ _ _ (e2.trans e3) S3 .bl g5⟩
  · exact q.elim
theorem de_Eq (hx : Passes (L2.CX X.prog X.w) X E0) (O : OwnAll X own n k0) (hr : Room (n + k0) X.A) (ha : DE X G a wa) (hb : DE X G b wb) : DE X G (.Compare a [.Eq] [b] pos) (wEq own n wa wb) := pe_cmp (pc_Eq hx O hr ha hb)
theorem dt_Eq (hx : Passes (L2.CX X.prog X.w) X E0) (O : OwnAll X own n k0) (hr : Room (n + k0) X.A) (ha : DE X G a wa) (hb : DE X G b wb) : DT X G (.Compare a [.Eq] [b] pos) (wBl (wEq own n wa wb)) := PT.imp (pt_cmp (pc_Eq hx O hr ha hb)) fun _ _ _ h => lift_Bl h
theorem pc_NotEq (hx : Passes (L2.CX X.prog X.w) X E0) (O : OwnAll X own n k0) (hr : Room (n + k0) X.A) (ha : DE X G a wa) (hb : DE X G b wb) : PC X .NotEq a b (lift X.K G (wNe own n wa wb)) := by
  refine ⟨fun pins s σ H Q I h => ?_⟩
  obtain ⟨tmp, F, env, fp, Qd, S, h, k⟩ := h
  have h2 : lift X.K G wa σ H fun x H1 => lift X.K G wb σ H1 fun y H2 => ∃ F2 env2 fp2 ra rb, Ext F H F2 H2 ∧ SR X.K G tmp F2 σ H2 env2 fp2 ∧ RV X.K G tmp F2 σ H2 env2 fp2 x ra.hold ∧ RV X.K G tmp F2 σ H2 env2 fp2 y rb.hold ∧ (match pkT env2 ra, pkT env2 rb with
      | some (da, ta), some (db, tb) => (isIns da = true → ta = true ∧ tb = true) ∧ (isIns db = true → tb = true) ∧ topN da db ∧ ∃ b, EqN own n da db b ∧ Qd (.sh (.bl (if true then !b else b))) env2
      | _, _ => False) := lift2 S h fun ra rb env2 x y H2 F2 fp2 e2 S2 r1 r2 q => ⟨F2, env2, fp2, ra, rb, e2, S2, r1, r2, q⟩
  refine thn (ha.run pins s σ H _ I h2) fun v s1 ⟨x, H1, I1, rx, q1⟩ => ?_
  refine thn (hb.run pins s1 σ H1 _ I1 q1) fun u s2 ⟨y, H2, I2, ry, F2, env2, fp2, ra, rb, e2, S2, r1, r2, q⟩ => ?_
  split at q
  · rename_i da ta db tb h3 h4
    obtain ⟨g1, g2, g3, b, g4, g5⟩ := q
    obtain ⟨l1, m1⟩ := LkE.of S2 r1 h3 fun z => (g1 z).1
    obtain ⟨l2, m2⟩ := LkE.of S2 r2 h4 g2
    refine wpAny_mono (rc_topNotEq hx n O _ _ _ _ _ _ _ _ _ _ _ _ _ _ _ hr I2 S2 l1 l2 (fun z => m2 (g1 z).2) rx ry g4 g3) (fun r s3 z => ?_) fun _ _ z => z
    obtain ⟨rfl, H3, F3, fp3, I3, e3, _, _, S3⟩ := z
    exact ⟨.bl (!b), H3, I3, rfl, k (.sh (.bl _)) _ _ _ _ _ (e2.trans e3) S3 .bl g5⟩
  · exact q.elim
theorem de_NotEq (hx : Passes (L2.CX X.prog X.w) X E0) (O : OwnAll X own n k0) (hr : Room (n + k0) X.A) (ha : DE X G a wa) (hb : DE X G b wb) : DE X G (.Compare a [.NotEq] [b] pos) (wNe own n wa wb) := pe_cmp (pc_NotEq hx O hr ha hb)
theorem dt_NotEq (hx : Passes (L2.CX X.prog X.w) X E0) (O : OwnAll X own n k0) (hr : Room (n + k0) X.A) (ha : DE X G a wa) (hb : DE X G b wb) : DT X G (.Compare a [.NotEq] [b] pos) (wBl (wNe own n wa wb)) := PT.imp (pt_cmp (pc_NotEq hx O hr ha hb)) fun _ _ _ h => lift_Bl h
end
end DL
namespace DL
open PySem PySem.Spec PyProof.Rows L2
open C8 (InsC)
theorem pass0 {X : Cx} : Passes (L2.CX X.prog X.w) X E0 := passes_call LamX.takes0 fun _ _ _ _ h => h
theorem link0 {K : PySem.W.Frag} {G : Gh} : Link K G E0 (fun _ _ => False) := fun _ _ _ _ _ _ _ _ _ _ _ z => z.elim
/-- a def of the text that keeps its promise -/
structure Ok (P : Program) (w : World) (K : PySem.W.Frag) (mg : Str → Option Value) (base : Heap) (k : Nat) (x : Str) (ps : List Str) (sem : Sem) : Prop where
  ex : ∃ fd, FnOk P w K mg base (L2.CX P w) k (He.ga K x) fd ps (spD K ps.length sem) ∧ Binds K fd ps []
  kp : PySem.W.keepIn K (.ref (He.ga K x)) = true
  mg : mg x = some (.ref (He.ga K x))
abbrev OkX (X : Cx) (k : Nat) (x : Str) (ps : List Str) (sem : Sem) : Prop := Ok X.prog X.w X.K X.mg X.base k x ps sem
section
variable {X : Cx} {G : Gh} {k m : Nat} {x : Str} {ps : List Str} {sem : Sem} {p pos : Pos} {e : Expr} {es : List Expr} {wr : WA} {ms : List Bool} {E : XK} {Ed : XD → EnvD → Prop}
/-- a call that lets nothing out -/
theorem de_c (ms : List Bool) (O : OkX X k x ps sem) (hr : Room k X.A) (hg : Gl X x) (ha : DA X G (e :: es) m wr) (hn : m = ps.length := by rfl) (hdb : (x == ("__debug__" : Str)) = false := by decide)
    (he : starEach (e :: es) X.env = (false, eval e X.env) :: starEach es X.env := by rfl) (hpl : (backTo pos (starEach es X.env)).any (·.1) = false := by rfl) : DE X G (.Call (.Name x p) (e :: es) [] pos) (wCall sem ms [] wr fun _ _ => False) := by
  obtain ⟨⟨fd, F, b⟩, kp, hm⟩ := O
  exact de_call F hr hg hm kp b .nil pass0 link0 (fun _ _ => .nil) ha (by simpa using hn) hdb he hpl
/-- a call that may let an exception out -/
theorem de_cx (ms : List Bool) (O : OkX X k x ps sem) (hr : Room k X.A) (hg : Gl X x) (hx : Passes (L2.CX X.prog X.w) X E) (hl : Link X.K G E Ed) (ha : DA X G (e :: es) m wr) (hn : m = ps.length := by rfl) (hdb : (x == ("__debug__" : Str)) = false := by decide)
    (he : starEach (e :: es) X.env = (false, eval e X.env) :: starEach es X.env := by rfl) (hpl : (backTo pos (starEach es X.env)).any (·.1) = false := by rfl) : DE X G (.Call (.Name x p) (e :: es) [] pos) (wCall sem ms [] wr Ed) := by
  obtain ⟨⟨fd, F, b⟩, kp, hm⟩ := O
  exact de_call F hr hg hm kp b .nil hx hl (fun _ _ => .nil) ha (by simpa using hn) hdb he hpl
theorem Ok.mono {P : Program} {w : World} {K : PySem.W.Frag} {mg : Str → Option Value} {base : Heap} {j : Nat} (O : Ok P w K mg base k x ps sem) (h : k ≤ j) : Ok P w K mg base j x ps sem := by
  obtain ⟨⟨fd, F, b⟩, kp, hm⟩ := O
  exact ⟨⟨fd, F.mono h, b⟩, kp, hm⟩
end
/-- one def's place: its function object and what binds it -/
theorem Ok.of {P : Program} {w : World} {K : PySem.W.Frag} {mg : Str → Option Value} {base : Heap} {k : Nat} {x : Str} {ps : List Str} {sem : Sem} {params : Arguments} {body : List Stmt} {scope : Scope} {fd : FuncData} {q : Str} (F : FunD K x q params body scope [] [] (He.ga K x) fd) (b : Binds K fd ps []) (hm : mg x = some (.ref (He.ga K x)))
    (h : FnOk P w K mg base (L2.CX P w) k (He.ga K x) fd ps (spD K ps.length sem)) : Ok P w K mg base k x ps sem := ⟨⟨fd, h, b⟩, F.kp, hm⟩
/-- no exception leaves: the body in the context without one -/
theorem fn_D0 {P : Program} {w : World} {K : PySem.W.Frag} {mg : Str → Option Value} {base : Heap} {x qual : Str} {params : Arguments} {body : List Stmt} {scope : Scope} {dvs : List V} {kws : List (Str × V)} {f : Addr} {fd : FuncData} {N ps : List Str} {k n : Nat} {sem : Sem}
    (F : FunD K x qual params body scope dvs kws f fd) (S : FnScope N ps scope) (hn : ps.length = n) (m : Nat) (hm : N.length = n + m)
    (hbody : ∀ (X : Cx) (G : Gh), X.prog = P → X.w = w → X.K = K → X.mg = mg → X.base = base → X.N = N → X.env.scope = scope → X.calm = true → X.fn = (fun _ => true) → X.xe = (fun _ _ => False) → X.env.cells = X.env.cells → Room k X.A → True → ∃ wb, DSs X G body wb ∧ ∀ args Qd Ed, args.length = n → sem args Qd Ed → wb (args ++ uns m) ⟨fun env => Qd (.sh .non) (env.take n), fun r env => Qd r (env.take n), fun _ => False, fun _ => False⟩) : True := trivial
end DL
namespace DL
open PySem PySem.Spec PyProof.Rows L2
open C8 (InsC)
/-! ### forms that a program prints -/
/-- no own class is compared -/
def own0 : Str → Option Str := fun _ => none
section
variable {X : Cx} {G : Gh} {k n m : Nat} {x : Str} {sem : Sem} {p pos : Pos} {e : Expr} {we : WE}
theorem own0_all {k0 : Nat} : OwnAll X own0 n k0 := fun _ _ _ h => by cases h
theorem de_gIx {i : Int} (hg : Gl X x) (h : ∃ t, X.mg x = some (.int i t)) (hd : (x == ("__debug__" : Str)) = false := by decide) : DE X G (.Name x pos) (wC (.int i)) := let ⟨_, ht⟩ := h; de_gI hg ht hd
theorem de_gSx {z : Str} (hg : Gl X x) (h : ∃ t, X.mg x = some (.str z t)) (hd : (x == ("__debug__" : Str)) = false := by decide) : DE X G (.Name x pos) (wC (.str z)) := let ⟨_, ht⟩ := h; de_gS hg ht hd
/-- a property of an own class that keeps its promise -/
structure PrOk (P : Program) (w : World) (K : PySem.W.Frag) (mg : Str → Option Value) (base : Heap) (k : Nat) (c m : Str) (sem : Sem) : Prop where
  cl : Cls K (He.ga K c)
  ex : ∃ (pA g : Addr) (fd : FuncData) (ps : List Str), PropOf K (He.ga K c) m pA g ∧ FnOk P w K mg base (L2.CX P w) k g fd ps (spD K 1 sem) ∧ Binds K fd ps []
theorem de_propO {c a : Str} (O : PrOk X.prog X.w X.K X.mg X.base k c a sem) (hr : Room (k + 1) X.A) (he : DE X G e we) (hab : attributeBase e a X.env (eval e X.env) = eval e X.env := by rfl) : DE X G (.Attribute e a pos) (wProp c sem [false] we (fun _ _ => False)) := by
  obtain ⟨cl, pA, g, fd, ps, hp, F, b⟩ := O
  exact de_prop cl hp F hr b pass0 link0 he hab
end
/-- isinstance: the tables -/
def ownT (t : List (Str × Bool)) : Str → Option Bool := fun c => t.lookup c
/-- what an exceptional name may be: nothing of the kind here -/
abbrev ends (n : Nat) (Qd : R → EnvD → Prop) : DEnds := ⟨fun env => Qd (.sh .non) (env.take n), fun r env => Qd r (env.take n), fun _ => False, fun _ => False⟩
end DL
namespace DLE
open PySem
open AutoSeq1 (wpAny_loadPart')
/-- enumerate(t) of a tuple -/
theorem enum_newT (l : Addr) (ps : Array Value) (n : Nat) (dct : Option Addr) (sl : Array (Option Value)) :
    Meets (Builtin.«enumerate.__new__» ⟨[.type "enumerate", .ref l], []⟩) (fun _ R s => s.heap.get? l = some { cls := .type "tuple", dict := dct, data := .seq ps n, slots := sl } ∧
      R (.ok (.ret (.ref (s.heap.push { cls := .type "tuple_iterator", data := .fields #[.ref l, .int 0 0] }).objs.size)))
        { s with heap := (s.heap.push { cls := .type "tuple_iterator", data := .fields #[.ref l, .int 0 0] }).push { cls := .type "enumerate", data := .fields #[.none, .bool false, .ref s.heap.objs.size, rawInt 0, .none, .none] } }) :=
  .of_wp fun prog w A R s h => by
    obtain ⟨hp, g, d, tk, os⟩ := s; obtain ⟨hl, h⟩ := h
    have sb := sub_enumerate
    have hT : Heap.IsTuple (Shared.heap ⟨hp, g, d, tk, os⟩) l ps := ⟨_, hl, rfl, n, rfl⟩
    wp_walk using wpAny_loadPart' hl
    refine wpAny_stack_any fun st => wpAny_pure ?_
    split
    · rename_i c _ _ _ _ _
      cases (c == Value.type "enumerate")
      · wp_walk using wpAny_loadPart' hl, wpAny_pyIter_tuple hT
        exact ⟨_, rfl, h⟩
      · wp_walk using wpAny_loadPart' hl, wpAny_pyIter_tuple hT
        exact ⟨_, rfl, h⟩
    · wp_walk using wpAny_loadPart' hl, wpAny_pyIter_tuple hT
      exact ⟨_, rfl, h⟩
end DLE
namespace DL
open PySem PySem.Spec PyProof.Rows L2
theorem call_enumT {prog : Program} {w : World} {A : Around} {E : Value → Shared → Prop} {s : Shared} {l : Addr} {ps : Array Value} {Q : Value → Shared → Prop} (hT : s.heap.IsTuple l ps)
    (h : ∀ h', IsEnum h' (s.heap.objs.size + 1) s.heap.objs.size 0 .none → h'.IsTupleIter s.heap.objs.size l 0 → h'.objs.size = s.heap.objs.size + 2 → (∀ b o, s.heap.get? b = some o → h'.get? b = some o) → Q (.ref (s.heap.objs.size + 1)) { s with heap := h' }) :
    wpAny (model prog w) A (call (.type "enumerate") [.ref l]) Q E s := by
  obtain ⟨⟨c, dct, dt, sl⟩, hl, hc, n, hd⟩ := hT
  simp only at hc hd
  subst hc hd
  refine callType_new PySem.F.called_enumerate (by decide) (PySem.F.typeCall_enumerate_1 _) (PySem.F.newCall_enumerate_1 _) (fun obj => PySem.F.args_object_init_2 obj _) PySem.F.entry_enumerate_new (DLE.enum_newT l ps n dct sl) ⟨hl, ?_⟩
  have hz : (s.heap.push { cls := .type "tuple_iterator", data := .fields #[.ref l, .int 0 0] }).objs.size = s.heap.objs.size + 1 := Heap.size_push ..
  show _ ∧ _
  rw [hz]
  have he : IsEnum ((s.heap.push { cls := .type "tuple_iterator", data := .fields #[.ref l, .int 0 0] }).push { cls := .type "enumerate", data := .fields #[.none, .bool false, .ref s.heap.objs.size, rawInt 0, .none, .none] }) (s.heap.objs.size + 1) s.heap.objs.size 0 .none := by
    have q := Heap.get?_push_size (s.heap.push { cls := .type "tuple_iterator", data := .fields #[.ref l, .int 0 0] }) (o := { cls := .type "enumerate", data := .fields #[.none, .bool false, .ref s.heap.objs.size, rawInt 0, .none, .none] }) rfl
    rw [hz] at q
    exact q
  exact ⟨⟨_, he, rfl⟩, h _ he ⟨_, Heap.get?_push_of_some _ (Heap.get?_push_size _ rfl), rfl, rfl⟩ (by rw [Heap.size_push, hz]) fun b o x => Heap.get?_push_of_some _ (Heap.get?_push_of_some _ x)⟩
/-- the tuple at a, each item in a new pair -/
def IteT (K : PySem.W.Frag) (a : Addr) : It :=
  ⟨fun i H => ∃ (xs : List V) (x : V), SqT K H a xs ∧ xs[i]? = some x, fun i H v H' => ∃ T x, v = .ref T ∧ H T = none ∧ H' = upd H T (.tup [.int (i : Nat), x]) ∧ ∀ xs, SqT K H a xs → xs[i]? = some x, fun i H => ∃ xs : List V, SqT K H a xs ∧ xs.length ≤ i⟩
theorem turn_enumT {P : Program} {w : World} {K : PySem.W.Frag} {elts : List Expr} {kk : Nat} {tpos : Pos} (a e it : Addr) :
    Turn P w K (.Tuple elts kk tpos) (IteT K a) [e, it] e (fun i h => (∃ old, IsEnum h e it ((i : Nat) : Int) old) ∧ h.IsTupleIter it a i ∧ e ≠ it) where
  mem := by simp
  obj := fun i h st b hb => by
    obtain ⟨⟨old, he⟩, ⟨o, ho, hc, hd⟩, _⟩ := st
    rcases (show b = e ∨ b = it by simpa using hb) with z | z
    · rw [z]; exact ⟨_, he, fun v q => nomatch q⟩
    · rw [z]; exact ⟨o, ho, fun v q => by rw [hd] at q; cases q⟩
  keep := fun i h h' st k => ⟨let ⟨old, he⟩ := st.1; ⟨old, k e (by simp) _ he⟩, st.2.1.at fun o q => k it (by simp) o q, st.2.2⟩
  item := by
    intro X hP hw hK hc i pins s σ H E I hf st hg
    subst hP hw hK
    obtain ⟨⟨old, he⟩, hit, hne⟩ := st
    obtain ⟨xs, x, hq, hx⟩ := hg
    obtain ⟨its, rv, p, _⟩ := I.tuple hq
    obtain ⟨u, hu, ru⟩ := rv.get hx
    have le : e < s.heap.objs.size := Heap.lt_size he
    have li : it < s.heap.objs.size := by obtain ⟨_, q, _⟩ := hit; exact Heap.lt_size q
    have ha : a ≠ it := fun z => by
      obtain ⟨o1, g1, g2, _⟩ := p
      obtain ⟨o2, g3, g4, _⟩ := hit
      rw [← z, g1] at g3
      cases g3
      rw [g2] at g4
      injection g4 with g5
      exact absurd g5 (by decide)
    have hae : e ∉ [it, a] := by
      simp only [List.mem_cons, List.not_mem_nil, or_false, not_or]
      refine ⟨hne, fun z => ?_⟩
      obtain ⟨o1, g1, g2, _⟩ := p
      rw [← z, he] at g1
      cases g1
      injection g2 with g5
      exact absurd g5 (by decide)
    have hlt : i < its.toArray.size := by
      have := (List.getElem?_eq_some_iff.mp hu).1
      simpa using this
    refine wpAny_pyNext_enum_itemD (Draws.tuple (prog := X.prog) (w := X.w) (A := X.A.in1) (I.ok.hd hc) it a ha its.toArray) he ⟨hit, p⟩ hlt hne hae fun x' h' tk hx' ho hst hT hz hk => ?_
    have hx'' : its[i]? = some x' := by simpa using hx'
    rw [hu] at hx''
    cases hx''
    refine ⟨_, rfl, wpAny_letOwnedTupleGo_enum (s := { s with heap := h', toks := tk + 1 }) ho fun h2 he2 sb => ?_⟩
    have hT2 : h2.get? s.heap.objs.size = some { cls := .type "tuple", data := .seq #[.int i tk, u] } := (sb.2 _ (Nat.ne_of_gt le)).trans hT
    have new : ObjOk X.prog X.w (upd H s.heap.objs.size (.tup [.int (i : Nat), x])) h2 s.heap.objs.size (.tup [.int (i : Nat), x]) := ⟨by show 2 ≤ sizeLine; decide, [.int i tk, u], .cons ⟨_, rfl⟩ (.cons ru .nil), ⟨_, hT2, rfl, _, rfl⟩⟩
    have I1 : Inv X pins σ (upd H s.heap.objs.size (.tup [.int (i : Nat), x])) { s with heap := h2, toks := tk + 1 } :=
      I.turnedNew (ch := [e, it]) (fun b o hb q => (sb.2 b (fun z => hb (by simp [z]))).trans (hk b o (fun z => hb (by simp [z])) (fun z => hb (by simp [z])) q)) hf (Nat.le_refl _) new
    refine ⟨.ref s.heap.objs.size, _, I1, rfl, ⟨_, x, rfl, I.hok.fresh (Nat.le_refl _), rfl, fun ys hy => by rw [I.tuple_inj hy hq]; exact hx⟩, ⟨⟨u, ?_⟩, hst.1.at fun o q => (sb.2 it (Ne.symm hne)).trans q, hne⟩, fun b hb => ?_⟩
    · have e1 : ((i + 1 : Nat) : Int) = (i : Int) + 1 := by omega
      rw [e1]; exact he2
    · have lb : b < s.heap.objs.size := by
        rcases (show b = e ∨ b = it by simpa using hb) with z | z
        · rw [z]; exact le
        · rw [z]; exact li
      rw [upd_ne (Nat.ne_of_lt lb)]
      exact (hf b hb).1
  done := by
    intro X hP hw hK hc i pins s σ H E I hf st hg
    subst hP hw hK
    obtain ⟨⟨old, he⟩, hit, hne⟩ := st
    obtain ⟨xs, hq, hx⟩ := hg
    obtain ⟨its, rv, p, _⟩ := I.tuple hq
    obtain ⟨f0, f1, f2, f3, f4, f5⟩ := hf it (by simp)
    have hl := rv.length
    have T : s.TypeIs (.ref e) "enumerate" := ⟨_, he, rfl⟩
    unfold pyNext
    refine wpAny_bind (wpAny_attempt (wpAny_callSpecial?_slot (name := Str.ofString "__next__") T PySem.F.slot_enumerate_next (wpAny_call_entry PySem.F.slot_enumerate_next T PySem.F.entry_enumerate_next ?_ (PySem.F.args_enumerate_next_1 _))))
    show wpAny _ _ (field (.ref e) 2 >>= _) _ _ _
    refine wpAny_bind (wpAny_field he rfl (x := .ref it) rfl ?_)
    refine wpAny_bind (wpAny_nextOf_tuple_end (I.ok.hd hc) hit p (by simp; omega) fun h' x he' hx' => ?_)
    obtain ⟨o, ho, hcl⟩ := hx'
    refine wpAny_bind (wpAny_isInstance (T := "StopIteration") (b := true) ⟨o, ho, hcl⟩ isSubtype_stop ?_)
    exact wpAny_pure ⟨rfl, I.turned (t' := s.toks) (fun b o hb q => he' b o hb q) f0 f1 f3 f4 f5⟩
  self := fun A i s Q E st h => let ⟨⟨_, he⟩, _⟩ := st; wpAny_pyIter_enum he h
/-- enumerate(x), a list or a tuple -/
def iEnumA (K : PySem.W.Frag) (ta : TA) : TI := fun σ H R => ta σ H fun vs H1 => ∃ a xs, vs = [.ref a] ∧ ((SqL K H1 a xs ∧ R (Ite K a) H1) ∨ (SqT K H1 a xs ∧ R (IteT K a) H1))
theorem pi_enumA {X : Cx} {e : Expr} {ta : TA} {p pos tpos : Pos} {elts : List Expr} {kk : Nat} (hg : Gl X "enumerate") (hm : X.mg "enumerate" = none) (ha : PA X [e] ta) (hs : starEach [e] X.env = [(false, eval e X.env)] := by rfl) :
    PI X (.Tuple elts kk tpos) (.Call (.Name "enumerate" p) [e] [] pos) (iEnumA X.K ta) := by
  refine ⟨fun pins s σ H R I h => Call_ (ld_blt I hg hm boot_enumerate (PyProof.Rows.callWith_type1 (thn (ha.run pos pins s σ H _ I h) fun us s1 ⟨vs, H1, I1, r1, a, xs, ex, q⟩ => ?_) hs rfl))⟩
  subst ex
  cases r1 with
  | cons r rr =>
    cases rr
    cases r
    have fpk : ∀ b ∈ [s1.heap.objs.size + 1, s1.heap.objs.size], FpOk X pins H1 b := fun b hb => by
      have hle : s1.heap.objs.size ≤ b := by
        rcases (show b = s1.heap.objs.size + 1 ∨ b = s1.heap.objs.size by simpa using hb) with z | z
        · rw [z]; exact Nat.le_add_right _ _
        · rw [z]; exact Nat.le_refl _
      exact I1.fpOk hle (I1.hok.fresh hle)
    rcases q with ⟨hq, q⟩ | ⟨hq, q⟩
    · obtain ⟨its, rv, p', _⟩ := I1.list hq
      exact call_enumerate_list p'.isList fun h' he hit hsz hk => wpAny_pyIter_enum he ⟨_, [s1.heap.objs.size + 1, s1.heap.objs.size], _, _, H1, rfl, I1.kept (t' := s1.toks) hk, turn_enum a _ _, ⟨⟨.none, he⟩, hit, Nat.succ_ne_self _⟩, fpk, q⟩
    · obtain ⟨its, rv, p', _⟩ := I1.tuple hq
      exact call_enumT p' fun h' he hit hsz hk => wpAny_pyIter_enum he ⟨_, [s1.heap.objs.size + 1, s1.heap.objs.size], _, _, H1, rfl, I1.kept (t' := s1.toks) hk, turn_enumT a _ _, ⟨⟨.none, he⟩, hit, Nat.succ_ne_self _⟩, fpk, q⟩
def numbered : Nat → List D → List D
  | _, [] => []
  | i, d :: ds => .tup [.int (i : Nat), d] :: numbered (i + 1) ds
theorem numbered_length : ∀ (i : Nat) (ds : List D), (numbered i ds).length = ds.length
  | _, [] => rfl
  | i, d :: ds => congrArg Nat.succ (numbered_length (i + 1) ds)
theorem numbered_get : ∀ (i : Nat) (ds : List D) (j : Nat) (x : D), (numbered i ds)[j]? = some x → ∃ d, ds[j]? = some d ∧ x = .tup [.int ((i + j : Nat) : Int), d]
  | _, [], j, x, h => by simp [numbered] at h
  | i, d :: ds, 0, x, h => by simp [numbered] at h; exact ⟨d, rfl, h.symm⟩
  | i, d :: ds, j + 1, x, h => by
    obtain ⟨d', h1, h2⟩ := numbered_get (i + 1) ds j x (by simpa [numbered] using h)
    exact ⟨d', by simpa using h1, by rw [h2, show i + 1 + j = i + (j + 1) by omega]⟩
def wEnum (wr : WA) : WI := fun env Q => wr env fun rs env1 => fzs rs env1 fun ds env2 => match ds with
  | [.lst xs] => Q (numbered 0 xs) env2
  | [.tup xs] => Q (numbered 0 xs) env2
  | _ => False
section
variable {X : Cx} {G : Gh} {e : Expr} {wr : WA} {n : Nat} {p pos tpos : Pos}
theorem di_enum {elts : List Expr} {kk : Nat} (hc : X.calm = true) (hg : Gl X "enumerate") (hm : X.mg "enumerate" = none) (ha : DA X G [e] n wr) (hs : starEach [e] X.env = [(false, eval e X.env)] := by rfl) :
    DI X G (.Tuple elts kk tpos) (.Call (.Name "enumerate" p) [e] [] pos) (wEnum wr) := by
  refine PI.imp (pi_enumA hg hm ha hs) fun σ H R h => ?_
  obtain ⟨tmp, F, env, fp, Qd, S, h, k⟩ := h
  refine ⟨tmp, F, env, fp, _, S, h, fun rs env1 vs H1 F1 fp1 hl e1 S1 r1 h1 => ?_⟩
  obtain ⟨ds, env2, F2, fp2, S2, e2, r2, _, h2⟩ := S1.freezes r1 h1
  split at h2
  · rename_i xs _
    cases r2 with
    | cons q t =>
      cases t
      cases q with
      | lst f h r =>
        refine ⟨_, _, rfl, .inl ⟨.of h, k _ _ _ _ _ _ (e1.trans e2) S2 ?_ h2⟩⟩
        intro tmp F3 σ3 H3 env3 fp3 e3 S3 i
        have h3 := vw_of_lst ((e3 _ f).2.1.trans (by rw [h]; rfl))
        have r3 := r.mono e3
        refine ⟨fun d hd => ?_, fun hi => ⟨_, .of h3, by rw [← r3.length, ← numbered_length 0 xs]; exact hi⟩⟩
        obtain ⟨d', g1, rfl⟩ := numbered_get 0 xs i d hd
        obtain ⟨v, g2, g3⟩ := r3.get g1
        refine ⟨⟨_, v, .of h3, g2⟩, fun x H4 y => ?_⟩
        obtain ⟨T, x', rfl, nT, rfl, g4⟩ := y
        have := g4 _ (.of h3)
        rw [g2] at this; cases this
        obtain ⟨S4, e4⟩ := S3.newSh nT (o := .tup [.int (i : Nat), v]) rfl
        exact ⟨_, S4, e4, Dat.tup (.inr rfl) upd_same (by rw [Nat.zero_add]; exact .cons .int (.cons (g3.mono e4) .nil))⟩
  · rename_i xs _
    cases r2 with
    | cons q t =>
      cases t
      obtain ⟨a, us, rfl, _, _⟩ := Lk.tup (Or.inl q)
      obtain ⟨vs', g1, g2, g3⟩ := q.tupA
      refine ⟨_, _, rfl, .inr ⟨g1, k _ _ _ _ _ _ (e1.trans e2) S2 ?_ h2⟩⟩
      intro tmp F3 σ3 H3 env3 fp3 e3 S3 i
      have h3 := g2 _ _ e3
      have r3 := g3.mono e3
      refine ⟨fun d hd => ?_, fun hi => ⟨_, h3, by rw [← r3.length, ← numbered_length 0 xs]; exact hi⟩⟩
      obtain ⟨d', g4, rfl⟩ := numbered_get 0 xs i d hd
      obtain ⟨v, g5, g6⟩ := r3.get g4
      refine ⟨⟨_, v, h3, g5⟩, fun x H4 y => ?_⟩
      obtain ⟨T, x', rfl, nT, rfl, g7⟩ := y
      have := g7 _ h3
      rw [g5] at this; cases this
      obtain ⟨S4, e4⟩ := S3.newSh nT (o := .tup [.int (i : Nat), v]) rfl
      exact ⟨_, S4, e4, Dat.tup (.inr rfl) upd_same (by rw [Nat.zero_add]; exact .cons .int (.cons (g6.mono e4) .nil))⟩
  · exact h2.elim
end
end DL
namespace DL
open PySem PySem.Spec PyProof.Rows L2
/-! ### an own exception: Base.__init__(self, text); self.f = x -/
/-- what the base class says -/
structure BaseC (K : PySem.W.Frag) (C : Addr) : Prop where
  ga : PySem.W.specialIn K (.ref C) "__getattribute__" = some (some (.builtin "type.__getattribute__"))
  rd : PySem.W.readsIn K C (.type "type") = true
  ty : PySem.W.typeIn K (.ref C) = some (.type "type")
  fi : PySem.W.findCls K (.ref C) (.type "type") "__init__" = some (.val (.builtin "ValueError.__init__"))
section
variable {X : Cx} {o e : Expr} {es : List Expr} {to te : TE} {ta : TA} {f x : Str} {p p' p1 p2 pos : Pos} {C0 : Addr}
/-- Base.__init__(self, ..), Base of the text -/
theorem pe_baseinit {pl : PySem.Sem Bool} (T0 : BaseC X.K C0) (hg : Gl X x) (hm : X.mg x = some (.ref C0)) (ha : PA X (e :: es) ta) (hdb : (x == ("__debug__" : Str)) = false := by decide)
    (hc : eval (.Call (.Attribute (.Name x p1) "__init__" p2) (e :: es) [] pos) X.env = (do
      let ov ← eval (.Name x p1) X.env
      standAt p2.atName
      let (f, first) ← holding [ov] (getMethod ov "__init__" pl)
      callWith pos f first (backTo pos (starEach (e :: es) X.env)) (backToKw pos (keywordEach [] X.env))) := by rfl)
    (he : starEach (e :: es) X.env = (false, eval e X.env) :: starEach es X.env := by rfl) (hpl : (backTo pos (starEach es X.env)).any (·.1) = false := by rfl) :
    PE X (.Call (.Attribute (.Name x p1) "__init__" p2) (e :: es) [] pos) (tVeI X.K ta) := by
  refine ⟨fun pins s σ H Q I h => PySem.W.methodCall_KW (ld_glob I hg hm ?_ hdb) hc⟩
  obtain ⟨m, fr⟩ := I.fr
  refine PySem.W.method_of_cls fr I.ok.mod.kin T0.ga (PySem.W.cls_val fr I.ok.mod.kin T0.ty T0.rd T0.fi (by decide +kernel) ?_)
  show wpAny _ _ (callWith pos (Value.builtin "ValueError.__init__") [] (backTo pos (starEach (e :: es) X.env)) []) _ _ _
  refine PyProof.Rows.callWith_method1 (thn (ha.run pos pins _ σ H _ (I.tok _) h) fun us s1 ⟨vs, H1, I1, r1, a, C, ws, ev, hl, T, ea, q⟩ => ?_) he hpl
  subst ev
  cases r1 with
  | @cons _ u0 _ ur ra rr =>
    obtain rfl : u0 = Value.ref a := ra
    have hz : ur.length ≤ sizeLine := by
      have := Paired.length rr
      rw [← this, sizeLine_eq]
      omega
    exact oinit_ok T I1 ea hz fun s' J => ⟨.non, H1, J, rfl, q⟩
end
/-- the promise of such an __init__ -/
def spExc (C : Addr) (f : Str) : Sp := fun vs H Q _ => ∃ e v, vs = [.ref e, v] ∧ H e = some (exo e C none) ∧ ∀ d, H d = none → d ≠ e → Q .non (upd (upd H d (exd d [(f, v)])) e (exo e C (some d)))
/-- such a body's reading -/
def tExcI (K : PySem.W.Frag) (tx fld : Str) : TS := tSeq (tDrop (tVeI K (tCons (tVar 0) (tCons (tC (.str tx)) tNil)))) (tOst K fld (tVar 0) (tVar 1))
theorem fn_excinit {P : Program} {w : World} {K : PySem.W.Frag} {mg : Str → Option Value} {base : Heap} {x qual fld : Str} {params : Arguments} {scope : Scope} {f C : Addr} {fd : FuncData} {k : Nat} {body : List Stmt} {tx : Str} {pa : Str}
    (F : FunD K x qual params body scope [] [] f fd) (S : FnScope ["self", pa] ["self", pa] scope) (T : OexC K C) (hno : PySem.W.findIn K (.ref C) fld = some none)
    (hb : ∀ (cdv : Value) (A : Around) (outer : List Env) (s : Shared) (H : Hp) (E : XK), PSs (cxOf (L2.CX P w) P w K mg base ["self", pa] qual scope f cdv A outer s H E).nox body (tExcI K tx fld)) :
    FnOk P w K mg base (L2.CX P w) (k + 1) f fd ["self", pa] (spExc C fld) := by
  refine F.ok S (fun vs H Q E h => ?_) fun cdv A outer s H vs Q E hr h => ⟨_, PSs.nox (hb cdv A outer s H E), ?_⟩
  · obtain ⟨e, v, rfl, _⟩ := h; rfl
  · obtain ⟨e, v, rfl, he, q⟩ := h
    refine ⟨.ref e, rfl, e, C, [.str tx], rfl, by simp, T, he, ?_⟩
    exact ⟨v, rfl, .ref e, rfl, e, C, rfl, T, hno, .inl ⟨he, fun d nd ne => q d nd ne⟩⟩
/-! ### raise C(x) -/
/-- an own exception class with one field, ready -/
structure ExOk (P : Program) (w : World) (K : PySem.W.Frag) (mg : Str → Option Value) (base : Heap) (k : Nat) (c f : Str) : Prop where
  T : OexC K (He.ga K c)
  gl : mg c = some (.ref (He.ga K c))
  ex : ∃ (fI : Addr) (fd : FuncData) (ps : List Str), PySem.W.findIn K (.ref (He.ga K c)) "__init__" = some (some (.ref fI)) ∧ PySem.W.typeIn K (.ref fI) = some (.type "function") ∧ FnOk P w K mg base (L2.CX P w) k fI fd ps (spExc (He.ga K c) f) ∧ Binds K fd ps []
def sRaise (c f : Str) (Ed : XD → EnvD → Prop) (wr : WA) : WS := fun env _ => wr env fun rs env1 => fzs rs env1 fun ds env2 => match ds with
  | [d] => Ed ⟨c, some (f, d)⟩ env2
  | _ => False
section
variable {X : Cx} {G : Gh} {k n : Nat} {c f : Str} {e : Expr} {es : List Expr} {wr : WA} {p pos rpos : Pos} {E : XK} {Ed : XD → EnvD → Prop}
theorem ds_raise (O : ExOk X.prog X.w X.K X.mg X.base k c f) (hr : Room (k + 1) X.A) (hc : X.calm = true) (tk : Takes X (fun cls d _ H => E cls d H)) (hl : Link X.K G E Ed) (hg : Gl X c) (ha : DA X G (e :: es) n wr) (hdb : (c == ("__debug__" : Str)) = false := by decide)
    (he : starEach (e :: es) X.env = (false, eval e X.env) :: starEach es X.env := by rfl) (hpl : (backTo pos (starEach es X.env)).any (·.1) = false := by rfl) : DS X G (.Raise (some (.Call (.Name c p) (e :: es) [] pos)) none rpos) (sRaise c f Ed wr) := by
  obtain ⟨T, hm, fI, fd, ps, h1, h2, FN, hb⟩ := O
  refine PS.imp (ps_raise hc tk (pmk_oex (dvs := []) (ds := []) T h1 h2 FN hr hb .nil pass0 hg hm ha hdb he hpl)) fun D σ H h => ?_
  obtain ⟨tmp, F, env, fp, Dd, S, h, kk⟩ := h
  refine ⟨tmp, F, env, fp, _, S, h, fun rs env1 vs H1 F1 fp1 hlen e1 S1 r1 h3 => ?_⟩
  obtain ⟨ds, env2, F2, fp2, S2, e2, r2, _, h4⟩ := S1.freezes r1 h3
  split at h4
  · rename_i d _
    cases r2 with
    | cons rd t =>
      cases t
      rename_i v
      refine ⟨by simp, fun a na => ⟨a, v, rfl, upd_same, fun dd nd ne => ⟨rfl, dd, [(f, v)], upd_same, ?_, ?_, ?_⟩⟩⟩
      · rw [upd_ne ne, upd_same]
      · rw [upd_ne ne] at nd; exact nd
      · have nd1 : H1 dd = none := by rw [upd_ne ne] at nd; exact nd
        have eH : upd (del (upd (upd (upd H1 a (exo a (He.ga X.K c) none)) dd (exd dd [(f, v)])) a (exo a (He.ga X.K c) (some dd))) a) dd (.xd [(f, v)]) = upd H1 dd (.xd [(f, v)]) := by
          funext b
          by_cases hb : b = dd
          · subst hb; rw [upd_same, upd_same]
          · rw [upd_ne hb, upd_ne hb]
            by_cases ha : b = a
            · subst ha; rw [del_same, na]
            · rw [del_ne ha, upd_ne ha, upd_ne hb, upd_ne ha]
        obtain ⟨S3, e3⟩ := S2.newSh (o := .xd [(f, v)]) nd1 rfl
        rw [eH]
        exact hl ⟨c, some (f, d)⟩ _ _ _ _ _ _ _ _ S3 ⟨rfl, dd, v, rfl, .inr rfl, upd_same, rd.mono e3⟩ h4
  · exact h4.elim
end
end DL
namespace DL
open PySem PySem.Spec PyProof.Rows L2
/-! ### repr of plain things (no dict): the text is that of the data -/
mutual
def pyD : D → PyData
  | .non => .none
  | .bl b => .bool b
  | .int i => .int i
  | .str x => .str x
  | .lst xs => .list (pyDs xs)
  | .tup xs => .tuple (pyDs xs)
  | .dct _ => .none
  | .ins _ _ => .none
  | .exc _ _ => .none
def pyDs : List D → List PyData
  | [] => []
  | d :: ds => pyD d :: pyDs ds
end
mutual
/-- without dicts, without own things -/
def seqD : D → Bool
  | .dct _ => false
  | .ins _ _ => false
  | .exc _ _ => false
  | .lst xs => seqDs xs
  | .tup xs => seqDs xs
  | _ => true
def seqDs : List D → Bool
  | [] => true
  | d :: ds => seqD d && seqDs ds
end
mutual
theorem pyD_noDict : ∀ d : D, (pyD d).hasDict = false
  | .non => by simp [pyD, PyData.hasDict]
  | .bl _ => by simp [pyD, PyData.hasDict]
  | .int _ => by simp [pyD, PyData.hasDict]
  | .str _ => by simp [pyD, PyData.hasDict]
  | .lst xs => by simp [pyD, PyData.hasDict, pyDs_noDict xs]
  | .tup xs => by simp [pyD, PyData.hasDict, pyDs_noDict xs]
  | .dct _ => by simp [pyD, PyData.hasDict]
  | .ins _ _ => by simp [pyD, PyData.hasDict]
  | .exc _ _ => by simp [pyD, PyData.hasDict]
theorem pyDs_noDict : ∀ ds : List D, PyData.hasDictAll (pyDs ds) = false
  | [] => by simp [pyDs, PyData.hasDictAll]
  | d :: ds => by simp [pyDs, PyData.hasDictAll, pyD_noDict d, pyDs_noDict ds]
end
section
variable {P : Program} {w : World} {K : PySem.W.Frag} {F : Addr → Prop} {H : Hp} {h : Heap}
mutual
theorem Dat.reads (ok : HOk P w H h) (kin : K.In h) : ∀ {d : D} {v : V} {u : Value}, Dat K F H d v → RelV v u → seqD d = true → ∃ as, Reads h u (pyD d) as
  | _, _, u, .non, r, _ => by
    cases (show u = .none from r)
    exact ⟨_, .none⟩
  | _, _, u, .bl (b := b), r, _ => by
    cases (show u = .bool b from r)
    exact ⟨_, .bool b⟩
  | _, _, u, .int, r, _ => by
    obtain ⟨t, rfl⟩ := r
    exact ⟨_, .int _ t⟩
  | _, _, u, .str, r, _ => by
    obtain ⟨t, rfl⟩ := r
    exact ⟨_, .str _ t⟩
  | _, _, u, .lst (a := a) f e t, r, z => by
    cases (show u = .ref a from r)
    obtain ⟨_, its, n, hv, hg⟩ := ok a _ e
    obtain ⟨as, q⟩ := Dats.reads ok kin t hv z
    exact ⟨a :: as, .list hg rfl rfl q⟩
  | _, _, u, .tup (a := a) f e t, r, z => by
    cases (show u = .ref a from r)
    obtain ⟨_, its, hv, o, hg, hc, n, hd⟩ := ok a _ e
    obtain ⟨as, q⟩ := Dats.reads ok kin t hv z
    exact ⟨as, .tuple hg hc hd q⟩
  | _, _, u, .tupK (a := a) hk hc hd hz rv t, r, z => by
    cases (show u = .ref a from r)
    obtain ⟨as, q⟩ := Dats.reads ok kin t rv z
    exact ⟨as, .tuple (kin a _ hk) hc hd q⟩
  | _, _, _, .dct _ _ _, _, z => by cases z
  | _, _, _, .ins _ _ _, _, z => by cases z
  | _, _, _, .exc _ _ _ _ _ _, _, z => by cases z
theorem Dats.reads (ok : HOk P w H h) (kin : K.In h) : ∀ {ds : List D} {vs : List V} {us : List Value}, Dats K F H ds vs → Vals vs us → seqDs ds = true → ∃ as, ReadsAll h us (pyDs ds) as
  | _, _, us, .nil, r, _ => by
    cases r
    exact ⟨[], .nil⟩
  | _, _, us, .cons x t, r, z => by
    simp only [seqDs, Bool.and_eq_true] at z
    cases r with
    | cons r1 r2 =>
      obtain ⟨a1, q1⟩ := Dat.reads ok kin x r1 z.1
      obtain ⟨a2, q2⟩ := Dats.reads ok kin t r2 z.2
      exact ⟨_, .cons q1 q2⟩
end
theorem Lk.reads (ok : HOk P w H h) (kin : K.In h) {d : D} {v : V} {u : Value} (l : Lk K F H d v) (r : RelV v u) (z : seqD d = true) : ∃ as, Reads h u (pyD d) as := by
  rcases l with l | ⟨a, rfl, o⟩
  · exact l.reads ok kin r z
  · cases (show u = .ref a from r)
    cases d with
    | lst ds =>
      obtain ⟨vs, e, t⟩ := o
      obtain ⟨_, its, n, hv, hg⟩ := ok a _ e
      obtain ⟨as, q⟩ := Dats.reads ok kin t hv z
      exact ⟨a :: as, .list hg rfl rfl q⟩
    | dct _ => cases z
    | ins _ _ => cases z
    | exc _ _ => cases z
    | _ => exact o.elim
end
/-- a thing of which repr is asked -/
def showD (d : D) : Prop := seqD d = true ∧ (pyD d).showable = true ∧ (pyD d).depth ≤ 40 ∧ (pyD d).shown.length ≤ sizeLine
def fRepr : OpA := fun ds Q => ∃ d, ds = [d] ∧ showD d ∧ Q (.sh (.str (pyD d).shown))
def rRepr (K : PySem.W.Frag) : List V → Hp → VK → Prop := fun xs H Q => ∃ v d, xs = [v] ∧ (∃ F, Lk K F H d v) ∧ showD d ∧ Q (.str (pyD d).shown) H
theorem cd_repr {K : PySem.W.Frag} {G : Gh} : CallD K G (rRepr K) fRepr := by
  intro tmp F env fp σ H ds vs Qd Q S l h k
  obtain ⟨d, rfl, hd, h⟩ := h
  obtain ⟨v, rfl, l1⟩ := l.one
  exact ⟨v, d, rfl, ⟨F, l1⟩, hd, k (.sh (.str _)) (.str _) _ _ Ext.refl S .str h⟩
theorem cr_repr {X : Cx} (hg : X.A.guards = some []) (hu : X.A.units + 64 < cLine) : CallR X (.builtin "repr") (rRepr X.K) := by
  intro pins s σ H xs us Q I r h
  obtain ⟨v, d, rfl, ⟨F, l⟩, ⟨z1, z2, z3, z4⟩, q⟩ := h
  obtain ⟨u, rfl, r1⟩ := vals1 r
  obtain ⟨as, rd⟩ := l.reads I.hok I.kIn r1 z1
  have hnd : (pyD d).hasDict = true → sysModules ∉ as := PyData.noDict_hsm (pyD_noDict d)
  have fin : ∀ h' t tk, (∀ b o, s.heap.get? b = some o → h'.get? b = some o) → EP X pins σ Q (.str (pyD d).shown t) { s with heap := h', toks := tk } := fun h' t tk kp => ⟨.str (pyD d).shown, H, I.kept kp, ⟨t, rfl⟩, q⟩
  have atom : ∀ (y : Str) t tk, (pyD d).shown = y → EP X pins σ Q (.str y t) { s with toks := tk } := fun y t tk e => ⟨.str (pyD d).shown, H, I.tok tk, ⟨t, by rw [e]⟩, q⟩
  cases d with
  | non =>
    simp only [pyD] at rd
    cases rd
    exact P.repr_of_none (atom _ _ _ (by simp [pyD, PyData.shown]))
  | bl b =>
    simp only [pyD] at rd
    cases rd
    exact P.repr_of_bool (atom _ _ _ (by cases b <;> simp [pyD, PyData.shown]))
  | int i =>
    simp only [pyD] at rd
    cases rd
    exact P.repr_of_int (by simpa [pyD, PyData.showable] using z2) (atom _ _ _ (by simp [pyD, PyData.shown]))
  | str x =>
    simp only [pyD] at rd
    cases rd
    exact P.repr_of_str (atom _ _ _ (by simp [pyD, PyData.shown])) (by simpa [pyD, PyData.shown] using z4)
  | lst xs =>
    have e : pyD (.lst xs) = .list (pyDs xs) := by simp only [pyD]
    rw [e] at rd
    cases rd with
    | list h1 h2 h3 h4 => exact repr_of_reads' (by rw [e]; exact .list h1 h2 h3 h4) z2 hnd hg (by omega) (fun _ _ k => k) fin z4
  | tup xs =>
    have e : pyD (.tup xs) = .tuple (pyDs xs) := by simp only [pyD]
    rw [e] at rd
    cases rd with
    | tuple h1 h2 h3 h4 => exact repr_of_reads' (by rw [e]; exact .tuple h1 h2 h3 h4) z2 hnd hg (by omega) (fun _ _ k => k) fin z4
  | dct _ => cases z1
  | ins _ _ => cases z1
  | exc _ _ => cases z1
end DL
namespace DL
open PySem PySem.Spec PyProof.Rows L2
/-! ### defs that are promised only while no repr is under way -/
structure FnG (P : Program) (w : World) (K : PySem.W.Frag) (mg : Str → Option Value) (base : Heap) (CX : CXT) (k : Nat) (f : Addr) (fd : FuncData) (ps : List Str) (sp : Sp) : Prop where
  lens : ∀ vs H Q E, sp vs H Q E → vs.length = ps.length
  goes : ∀ (A : Around) (out : List Env) (s : Shared) (H : Hp) (args : Args) (us : List Value) (vs : List V) (Q : VK) (E : XK), A.guards = some [] → Room k A → Env0 P w K mg base A out s H → BindsTo s fd args (ps.zip us) → Vals vs us → sp vs H Q E →
    codeAny (model P w) A (.call (.ref f) args) (CR CX out P w H s Q E) s
theorem FnG.mono {P : Program} {w : World} {K : PySem.W.Frag} {mg : Str → Option Value} {base : Heap} {CX : CXT} {j k : Nat} {f : Addr} {fd : FuncData} {ps : List Str} {sp : Sp} (g : FnG P w K mg base CX j f fd ps sp) (h : j ≤ k) : FnG P w K mg base CX k f fd ps sp :=
  ⟨g.lens, fun A out s H args us vs Q E hg hr => g.goes A out s H args us vs Q E hg (hr.mono h)⟩
theorem fnG_of {P : Program} {w : World} {K : PySem.W.Frag} {mg : Str → Option Value} {base : Heap} {x qual : Str} {params : Arguments} {body : List Stmt} {scope : Scope} {dvs : List V} {kws : List (Str × V)} {f : Addr} {fd : FuncData} {CX : CXT} {N ps : List Str} {k : Nat} {sp : Sp}
    (fn : FunD K x qual params body scope dvs kws f fd) (sc : FnScope N ps scope) (lens : ∀ vs H Q E, sp vs H Q E → vs.length = ps.length)
    (body_ok : ∀ (cdv : Value) (A : Around) (out : List Env) (s : Shared) (H : Hp) (vs : List V) (Q : VK) (E : XK), A.guards = some [] → Room k (A.deeper (envOfC qual scope s.heap.objs.size f cdv)) → sp vs H Q E →
      ∃ t, PSs (cxOf CX P w K mg base N qual scope f cdv A out s H E) body t ∧ t { nx := fun _ H' => Q .non H', rt := Q } (start N vs) H) : FnG P w K mg base CX (k + 1) f fd ps sp := by
  obtain ⟨_, _, _, _, _, _, _, _, _, _, rfl, at_, code_, _, _⟩ := fn.ex
  exact ⟨lens, fun A out s H args us vs Q E hg hr e0 hb rv q => LamX.run_ofS at_ code_ sc hr e0 hb rv (lens _ _ _ _ q) fun hr' => body_ok _ A out s H vs Q E hg hr' q⟩
section
variable {X : Cx} {CX : CXT} {k : Nat} {f : Addr} {fd : FuncData} {ps : List Str} {sp : Sp} {dvs : List V} {ds : List Value} {E : XK} {x : Str} {p pos : Pos} {e : Expr} {es : List Expr} {t : TA}
theorem goG {pins : List (Addr × Obj)} {σ : St} {H : Hp} {s : Shared} {Q : VK} {us : List Value} {vs : List V} (fn : FnG X.prog X.w X.K X.mg X.base CX k f fd ps sp) (gd : X.A.guards = some []) (hr : Room k X.A) (hb : Binds X.K fd ps ds) (hd : Vals dvs ds) (hx : Passes CX X E)
    (I : Inv X pins σ H s) (rv : Vals vs us) (q : sp (vs ++ dvs) H Q E) : wpAny (model X.prog X.w) X.A (call (.ref f) us) (EP X pins σ Q) X.xe s := by
  have all := rv.append hd
  have ln : (us ++ ds).length = ps.length := all.length.symm.trans (fn.lens _ _ _ _ q)
  refine wpAny_call (codeAny_mono (fn.goes X.A X.stack s H ⟨us, []⟩ _ _ Q E gd hr I.env0 (hb s us I.kIn ln) all q) ?_)
  rintro (er | fl) s1 hq
  · exact hx pins σ H s er s1 I hq
  · cases fl with
    | ret u => exact I.after hq
    | _ => exact (show False from hq).elim
theorem pe_callG (fn : FnG X.prog X.w X.K X.mg X.base CX k f fd ps sp) (gd : X.A.guards = some []) (hr : Room k X.A) (hg : Gl X x) (hm : X.mg x = some (.ref f)) (hk : PySem.W.keepIn X.K (.ref f) = true) (hb : Binds X.K fd ps ds) (hd : Vals dvs ds) (hx : Passes CX X E)
    (ha : PA X (e :: es) t) (hdb : (x == ("__debug__" : Str)) = false := by decide) (he : starEach (e :: es) X.env = (false, eval e X.env) :: starEach es X.env := by rfl) (hpl : (backTo pos (starEach es X.env)).any (·.1) = false := by rfl) :
    PE X (.Call (.Name x p) (e :: es) [] pos) (tCall sp dvs E t) :=
  ⟨fun pins s σ H Q I q => wpAny_Call_Name_kw (ld_glob I hg hm (PySem.W.callWith_K (h₀ := X.base) I.ok.mod.kin hk (thn (ha.run pos pins s σ H _ I q) fun us s1 ⟨vs, H1, I1, rv, q1⟩ => ⟨I1.kIn, goG fn gd hr hb hd hx I1 rv q1⟩) he hpl) hdb)⟩
end
section
variable {X : Cx} {G : Gh} {k n m : Nat} {f : Addr} {fd : FuncData} {ps : List Str} {sem : Sem} {dvs : List V} {ds : List Value} {dargs : List D} {E : XK} {Ed : XD → EnvD → Prop} {x : Str} {p pos : Pos} {e : Expr} {es : List Expr} {ms : List Bool} {wr : WA}
theorem de_callG (fn : FnG X.prog X.w X.K X.mg X.base (L2.CX X.prog X.w) k f fd ps (spD X.K n sem)) (gd : X.A.guards = some []) (hr : Room k X.A) (hg : Gl X x) (hm : X.mg x = some (.ref f)) (hk : PySem.W.keepIn X.K (.ref f) = true) (hb : Binds X.K fd ps ds) (hd : Vals dvs ds)
    (hx : Passes (L2.CX X.prog X.w) X E) (hlk : Link X.K G E Ed) (hdd : ∀ F H, Dats X.K F H dargs dvs) (ha : DA X G (e :: es) m wr) (hn : m + dargs.length = n := by rfl) (hdb : (x == ("__debug__" : Str)) = false := by decide)
    (he : starEach (e :: es) X.env = (false, eval e X.env) :: starEach es X.env := by rfl) (hpl : (backTo pos (starEach es X.env)).any (·.1) = false := by rfl) : DE X G (.Call (.Name x p) (e :: es) [] pos) (wCall sem ms dargs wr Ed) :=
  PE.imp (pe_callG fn gd hr hg hm hk hb hd hx ha hdb he hpl) fun _ _ _ q => lift_call hlk hdd hn q
end
/-- fn_D with the guards known -/
theorem fn_DG {P : Program} {w : World} {K : PySem.W.Frag} {mg : Str → Option Value} {base : Heap} {x qual : Str} {params : Arguments} {body : List Stmt} {scope : Scope} {dvs : List V} {kws : List (Str × V)} {f : Addr} {fd : FuncData} {N ps : List Str} {k n : Nat} {sem : Sem}
    (fn : FunD K x qual params body scope dvs kws f fd) (sc : FnScope N ps scope) (hn : ps.length = n) (m : Nat) (hm : N.length = n + m)
    (body_ok : ∀ (cdv : Value) (A : Around) (out : List Env) (s : Shared) (H : Hp) (E : XK) (G : Gh) (Ed : XD → EnvD → Prop), A.guards = some [] → Room k (A.deeper (envOfC qual scope s.heap.objs.size f cdv)) → Link K G E Ed →
      ∃ wb, DSs (cxOf (L2.CX P w) P w K mg base N qual scope f cdv A out s H E) G body wb ∧ ∀ args Qd, args.length = n → sem args Qd Ed → wb (args ++ uns m) ⟨fun env => Qd (.sh .non) (env.take n), fun r env => Qd r (env.take n), fun _ => False, fun _ => False⟩) :
    FnG P w K mg base (L2.CX P w) (k + 1) f fd ps (spD K n sem) := by
  refine fnG_of fn sc (fun vs H Q E q => q.1.trans hn.symm) ?_
  intro cdv A out s H vs Q E gd hr q
  obtain ⟨ln, G, Fr, args, fp, Qd, Ed, q⟩ := q
  obtain ⟨wb, run, goal⟩ := body_ok cdv A out s H E G Ed gd hr q.link
  have la : args.length = n := by have := q.s.len; simp at this; omega
  have st : L2.start N vs = vs.map some ++ List.replicate m none := by unfold L2.start; rw [show N.length - vs.length = m by omega]
  refine ⟨_, run, [], Fr, args ++ uns m, _, _, st ▸ q.s.more m, goal args Qd la q.sem, ⟨fun env' σ' H' F' fp' e' S' z => ?_, fun r env' σ' v H' F' fp' e' S' r' z => ?_, fun _ _ _ _ _ _ _ z => z.elim, fun _ _ _ _ _ _ _ z => z.elim⟩⟩
  · exact q.ret (.sh .non) .non F' σ' H' env' fp' S' .non (by rw [la]; exact z)
  · exact q.ret r v F' σ' H' env' fp' S' r' (by rw [la]; exact z)
/-- a def of the text that keeps its promise while no repr is under way -/
structure OkG (P : Program) (w : World) (K : PySem.W.Frag) (mg : Str → Option Value) (base : Heap) (k : Nat) (x : Str) (ps : List Str) (sem : Sem) : Prop where
  ex : ∃ fd, FnG P w K mg base (L2.CX P w) k (He.ga K x) fd ps (spD K ps.length sem) ∧ Binds K fd ps []
  kp : PySem.W.keepIn K (.ref (He.ga K x)) = true
  mg : mg x = some (.ref (He.ga K x))
theorem OkG.mono {P : Program} {w : World} {K : PySem.W.Frag} {mg : Str → Option Value} {base : Heap} {j k : Nat} {x : Str} {ps : List Str} {sem : Sem} (o : OkG P w K mg base k x ps sem) (h : k ≤ j) : OkG P w K mg base j x ps sem :=
  let ⟨⟨fd, fn, b⟩, kp, hm⟩ := o
  ⟨⟨fd, fn.mono h, b⟩, kp, hm⟩
section
variable {X : Cx} {G : Gh} {k m : Nat} {x : Str} {ps : List Str} {sem : Sem} {p pos : Pos} {e : Expr} {es : List Expr} {wr : WA} {Ed : XD → EnvD → Prop}
/-- such a call that lets nothing out -/
theorem de_cG (ms : List Bool) (o : OkG X.prog X.w X.K X.mg X.base k x ps sem) (gd : X.A.guards = some []) (hr : Room k X.A) (hg : Gl X x) (ha : DA X G (e :: es) m wr) (hn : m = ps.length := by rfl) (hdb : (x == ("__debug__" : Str)) = false := by decide)
    (he : starEach (e :: es) X.env = (false, eval e X.env) :: starEach es X.env := by rfl) (hpl : (backTo pos (starEach es X.env)).any (·.1) = false := by rfl) : DE X G (.Call (.Name x p) (e :: es) [] pos) (wCall sem ms [] wr fun _ _ => False) := by
  obtain ⟨⟨fd, fn, b⟩, kp, hm⟩ := o
  exact de_callG fn gd hr hg hm kp b .nil pass0 link0 (fun _ _ => .nil) ha (by simpa using hn) hdb he hpl
end
/-- the guards in a def's body are those of its call -/
theorem guards_cx {CX : CXT} {P : Program} {w : World} {K : PySem.W.Frag} {mg : Str → Option Value} {base : Heap} {N : List Str} {qual : Str} {scope : Scope} {f : Addr} {cd : Value} {A : Around} {out : List Env} {s : Shared} {H : Hp} {E : XK} (h : A.guards = some []) :
    (cxOf CX P w K mg base N qual scope f cd A out s H E).A.guards = some [] := by
  show (A.deeper (envOfC qual scope s.heap.objs.size f cd)).guards = some []
  first
    | exact h
    | simpa [Around.deeper] using h
end DL
namespace DL
open PySem PySem.Spec PyProof.Rows L2
/-! ### the end of a row by a law's def that is promised while no repr is under way -/
section
variable {P : Program} {w : World} {K : PySem.W.Frag} {s : Shared} {a : Addr} {T : List Addr} {vs : List Value} {ns : List Int}
abbrev scrO (vs : List Value) : Obj := { cls := .type "list", data := .seq vs.toArray }
abbrev emptyT : Obj := { cls := .none, data := .fields #[] }
/-- what is tracked at the law's call: the script, where it is new, and the tables -/
def seen0 (K : PySem.W.Frag) (a : Addr) (T : List Addr) (vs : List Value) (ns : List Int) : Hp := fun b =>
  if b = a then (if (K.lookup a).isSome = true then none else some (.frz (scrO vs) (.lst (ns.map V.int)))) else if b ∈ T then some (.tbl #[]) else none
/-- the state there -/
structure AtLaw (K : PySem.W.Frag) (s : Shared) (a : Addr) (T : List Addr) (vs : List Value) (ns : List Int) : Prop where
  kin : K.In s.heap
  scr : s.heap.get? a = some (scrO vs)
  tab : ∀ b ∈ T, s.heap.get? b = some emptyT
  tabK : ∀ b ∈ T, K.lookup b = none
  nums : IntsAre vs ns
  few : ns.length ≤ sizeLine
namespace AtLaw
variable (q : AtLaw K s a T vs ns)
include q
theorem apart : a ∉ T := fun z => by
  have e := (q.tab a z).symm.trans q.scr
  have e2 : Data.fields #[] = Data.seq vs.toArray _ := congrArg Obj.data (Option.some.inj e)
  cases e2
theorem atT {b : Addr} (h : b ∈ T) : seen0 K a T vs ns b = some (.tbl #[]) := by
  unfold seen0
  rw [if_neg (fun z => q.apart (by rw [← z]; exact h)), if_pos h]
theorem cases {b : Addr} {o : HO} (h : seen0 K a T vs ns b = some o) : (b = a ∧ K.lookup a = none ∧ o = .frz (scrO vs) (.lst (ns.map V.int))) ∨ (b ∈ T ∧ o = .tbl #[]) := by
  unfold seen0 at h
  by_cases hb : b = a
  · rw [if_pos hb] at h
    cases hk : K.lookup a with
    | some x => rw [hk] at h; cases h
    | none =>
      rw [hk] at h
      cases h
      exact .inl ⟨hb, rfl, rfl⟩
  · rw [if_neg hb] at h
    by_cases ht : b ∈ T
    · rw [if_pos ht] at h
      cases h
      exact .inr ⟨ht, rfl⟩
    · rw [if_neg ht] at h
      cases h
theorem there {b : Addr} {o : HO} (h : seen0 K a T vs ns b = some o) : s.heap.get? b = some (scrO vs) ∨ s.heap.get? b = some emptyT := by
  rcases q.cases h with ⟨rfl, _, _⟩ | ⟨ht, _⟩
  · exact .inl q.scr
  · exact .inr (q.tab b ht)
/-- an object of another make is not tracked -/
theorem other {b : Addr} {o : Obj} (e : s.heap.get? b = some o) (h1 : ∀ xs n, o.data ≠ .seq xs n) (h2 : o.data ≠ .fields #[]) : seen0 K a T vs ns b = none := by
  cases hb : seen0 K a T vs ns b with
  | none => rfl
  | some u =>
    rcases q.there hb with z | z <;> rw [z] at e <;> cases e
    · exact (h1 _ _ rfl).elim
    · exact (h2 rfl).elim
theorem inBase {b : Addr} {o : Obj} (e : s.heap.get? b = some o) (h1 : ∀ xs n, o.data ≠ .seq xs n) (h2 : o.data ≠ .fields #[]) : (hidT s.heap (seen0 K a T vs ns)).get? b = some o := hidT_get e (q.other e h1 h2)
theorem script : SqL K (seen0 K a T vs ns) a (ns.map V.int) := by
  have rv := vals_ints q.nums
  cases hk : K.lookup a with
  | some o =>
    have e := (q.kin a o hk).symm.trans q.scr
    cases e
    refine .inr ⟨_, vs.toArray, _, hk, rfl, rfl, rfl, ?_, by simpa using rv⟩
    rw [List.size_toArray, q.nums.length]
    exact q.few
  | none =>
    refine .inl (.inr ⟨scrO vs, ?_⟩)
    unfold seen0
    rw [if_pos rfl, hk]
    rfl
theorem hok : HOk P w (seen0 K a T vs ns) s.heap := fun b o h => by
  rcases q.cases h with ⟨rfl, _, rfl⟩ | ⟨ht, rfl⟩
  · exact ⟨q.scr, by rw [List.length_map]; exact q.few, vs, _, vals_ints q.nums, q.scr⟩
  · exact q.tab b ht
theorem kinB : K.In (hidT s.heap (seen0 K a T vs ns)) := fun b o e => hidT_get (q.kin b o e) (by
  cases hb : seen0 K a T vs ns b with
  | none => rfl
  | some u =>
    rcases q.cases hb with ⟨rfl, z, _⟩ | ⟨z, _⟩
    · rw [z] at e; cases e
    · rw [q.tabK b z] at e; cases e)
theorem names {b : Addr} {m : Str → Option Value} (h : s.heap.Ns b m) : (hidT s.heap (seen0 K a T vs ns)).Ns b m := by
  obtain ⟨o, es, ep, e, d, r⟩ := h
  refine ⟨o, es, ep, q.inBase e (fun xs n z => ?_) (fun z => ?_), d, r⟩ <;> rw [d] at z <;> cases z
theorem tables {mg : Str → Option Value} {c t : Addr} (ht : t ∈ T) (hc : PySem.W.CodeHd s.heap c t) (hg : s.heap.Ns mainGlobals mg)
    (bm : ∃ (b : Addr) (o : Obj), mg "__builtins__" = some (.ref b) ∧ b ≠ builtinsNs ∧ s.heap.get? b = some o ∧ o.cls = .type "module" ∧ o.dict = some builtinsNs ∧ o.data = .plain) : LamX.TabB (hidT s.heap (seen0 K a T vs ns)) mg c t := by
  obtain ⟨g, es, ep, eg, dg, _⟩ := hg
  have gNe : ∀ {b : Addr} {o : Obj}, s.heap.get? b = some o → (∀ es ep, o.data ≠ .dict es ep) → b ≠ mainGlobals := fun {b o} e h z => by
    rw [z, eg] at e
    cases e
    exact h _ _ dg
  refine ⟨?_, ?_, fun z => ?_⟩
  · obtain ⟨o, us, file, tf, flags, tg, inF, text, tt, e1, r1, r2, r3, rest⟩ := hc
    refine ⟨o, us, file, tf, flags, tg, inF, text, tt, q.inBase e1 (fun xs n z => ?_) (fun z => ?_), r1, r2, r3, rest⟩ <;> rw [r2] at z <;> cases z
    simp at r3
  · obtain ⟨b, o, b1, b2, b3, b4, b5, b6⟩ := bm
    refine ⟨b, o, b1, b2, gNe b3 (fun es ep z => by rw [b6] at z; cases z), fun z => ?_, q.inBase b3 (fun xs n z => by rw [b6] at z; cases z) (fun z => by rw [b6] at z; cases z), b4, b5, b6⟩
    rw [z, q.tab t ht] at b3
    cases b3
    cases b6
  · exact gNe (q.tab t ht) (fun es ep y => by cases y) z.symm
/-- what the call has left -/
theorem leaves {s' : Shared} {H' : Hp} (un : Un (frs ([] : List Env)) [] (seen0 K a T vs ns) H' s.heap s'.heap) (ok : HOk P w H' s'.heap) (codes : ∀ t ∈ T, isCodeTable s.heap t) : OldK s.heap s'.heap := by
  have no : ∀ b : Addr, b ∉ ([] : List Addr) := fun b z => by cases z
  have same : ∀ b o, b ∉ T → s.heap.get? b = some o → s'.heap.get? b = some o := fun b o hb e => by
    cases hs : seen0 K a T vs ns b with
    | none => exact un.keep b o e hs (no b) (no b)
    | some u =>
      rcases q.cases hs with ⟨rfl, _, rfl⟩ | ⟨z, _⟩
      · have e2 := (ok b _ (un.frzs b _ _ hs)).1
        rw [← e, q.scr]
        exact e2
      · exact absurd z hb
  have more : ∀ t ∈ T, ∃ x : Array Value, s'.heap.get? t = some { cls := .none, data := .fields (#[] ++ x) } := fun t ht => by
    obtain ⟨x, z⟩ := un.tbls t #[] (q.atT ht)
    exact ⟨x, ok t _ z⟩
  refine ⟨fun b o e => ?_, fun b o e => ?_⟩ <;> by_cases hb : b ∈ T
  · obtain ⟨x, hx⟩ := more b hb
    have e2 := (q.tab b hb).symm.trans e
    cases e2
    exact .inr (.inl ⟨codes b hb, rfl, #[], x, rfl, hx⟩)
  · exact .inl (same b o hb e)
  · obtain ⟨x, hx⟩ := more b hb
    exact ⟨_, hx⟩
  · exact ⟨o, same b o hb e⟩
end AtLaw
/-- THE LAW'S CALL -/
theorem lawG {mg mb : Str → Option Value} {CX : CXT} {k : Nat} {fa : Addr} {cs : List (Addr × Addr)} {fd : FuncData} {x : Str} {sp : Sp} (q : AtLaw K s a (cs.map (·.2)) vs ns)
    (g : s.heap.Ns mainGlobals mg) (b : s.heap.Ns builtinsNs mb) (std : ∀ x : Str, x ≠ "__name__" → mb x = bootBuiltins x) (lim : s.heap.NoLimit) (gens : s.gens = #[]) (codes : ∀ p ∈ cs, PySem.W.CodeHd s.heap p.1 p.2)
    (bm : ∃ (b : Addr) (o : Obj), mg "__builtins__" = some (.ref b) ∧ b ≠ builtinsNs ∧ s.heap.get? b = some o ∧ o.cls = .type "module" ∧ o.dict = some builtinsNs ∧ o.data = .plain) (room : Room k callerA)
    (fn : ∀ base : Heap, K.In base → base.Ns mainGlobals mg → (∀ p ∈ cs, LamX.TabB base mg p.1 p.2) → FnG P w K mg base CX k fa fd [x] sp) (bind : ∀ (s : Shared) (u : Value), BindsTo s fd ⟨[u], []⟩ [(x, u)])
    (true_ : ∀ H : Hp, (∀ p ∈ cs, H p.2 = some (.tbl #[])) → SqL K H a (ns.map V.int) → sp [.ref a] H (fun v _ => v = .bl true) fun _ _ _ => False)
    (none_ : ∀ H e s', CX [] H s (fun _ _ _ => False) e s' → False) :
    codeAny (model P w) callerA (.call (.ref fa) ⟨[.ref a], []⟩) (fun r s' => r = .ok (.ret (.bool true)) ∧ OldK s.heap s'.heap ∧ s'.os = s.os ∧ AllBare s'.gens) s := by
  have mem : ∀ p ∈ cs, p.2 ∈ cs.map (·.2) := fun p hp => List.mem_map_of_mem hp
  have env : Env0 P w K mg (hidT s.heap (seen0 K a (cs.map (·.2)) vs ns)) callerA [] s (seen0 K a (cs.map (·.2)) vs ns) := by
    refine ⟨rfl, ⟨q.kinB, q.names g, ⟨mb, q.names b, std⟩, ?_⟩, fun _ _ e => of_hidT e, Nat.le_of_eq (hidT_size _ _), trivial, fun _ z => (by cases z), q.hok, .of_eq gens⟩
    obtain ⟨mc, h1, h2⟩ := lim
    exact ⟨mc, q.names h1, h2⟩
  have run := (fn _ q.kinB (q.names g) fun p hp => q.tables (mem p hp) (codes p hp) g bm).goes callerA [] s _ ⟨[.ref a], []⟩ [.ref a] [.ref a] _ _ rfl room env (bind s (.ref a)) (.cons rfl .nil) (true_ _ (fun p hp => q.atT (mem p hp)) q.script)
  refine codeAny_mono run ?_
  rintro (er | fl) s1 z
  · exact (none_ _ er s1 z).elim
  · cases fl with
    | ret u =>
      obtain ⟨v, H1, os, bare, un, ok1, ru, rfl⟩ := z
      cases (show u = Value.bool true from ru)
      refine ⟨rfl, q.leaves un ok1 fun t ht => ?_, os, bare⟩
      obtain ⟨p, hp, rfl⟩ := List.mem_map.mp ht
      exact ((codes p hp).tab (q.tab _ ht)).isCodeTable
    | _ => exact (show False from z).elim
end
/-- what is known of the law's promise behind the top -/
def LawG (l : PySem.W.OpenLaw) (w : World) (K : PySem.W.Frag) (CX : CXT) (k n : Nat) (x : Str) (mg : Str → Option Value) (fa : Addr) (h : Heap) : Prop :=
  ∃ (fd : FuncData) (cs : List (Addr × Addr)) (sp : Sp), (∀ b ∈ cs.map (·.2), h.get? b = some emptyT) ∧ (∀ b ∈ cs.map (·.2), K.lookup b = none) ∧ (∀ p ∈ cs, PySem.W.CodeHd h p.1 p.2) ∧ (∀ (s : Shared) (u : Value), BindsTo s fd ⟨[u], []⟩ [(x, u)]) ∧
    (∀ (H : Hp) (a : Addr) (ns : List Int), ns.length ≤ n → (∀ z ∈ ns, Builtin.Int.intBits z ≤ 1048576) → (∀ p ∈ cs, H p.2 = some (.tbl #[])) → SqL K H a (ns.map V.int) → sp [.ref a] H (fun v _ => v = .bl true) fun _ _ _ => False) ∧
    ∀ base : Heap, K.In base → base.Ns mainGlobals mg → (∀ p ∈ cs, LamX.TabB base mg p.1 p.2) → FnG l.prog w K mg base CX k fa fd [x] sp
theorem walk_ofG {l : PySem.W.OpenLaw} {n k : Nat} {q : Program} {loose : List Str} {XP : (Str → Option Value) → Heap → Prop} {YP : World → Heap → Prop} {d : DefRec} {CX : World → CXT} {x : Str} (most : l.most = some n) (n2 : n ≤ sizeLine) (dfl : d.params.defaults = []) (room : Room k callerA)
    (fn : ∀ (w : World) (mg : Str → Option Value) (fa : Addr) (h : Heap), YP w h → h.Ns mainGlobals mg → mg d.name = some (.ref fa) → ∃ K : PySem.W.Frag, K.In h ∧ LawG l w K (CX w) k n x mg fa h)
    (none_ : ∀ (w : World) (H : Hp) (s : Shared) (e : Value) (s' : Shared), CX w [] H s (fun _ _ _ => False) e s' → False) : PySem.W.WalkO q loose XP YP l.row.toRowW d [] (fun f vs => PySem.call f vs) := by
  refine Att.attach_callB most dfl ?_
  intro w s₀ s₁ mg mb fa o pm cd doc a vs ns ground hY _ _ _ hmg scr nums few bits gens
  obtain ⟨K, kin, fd, cs, sp, tab, tabK, codes, bind, tr, F⟩ := fn w mg fa _ hY ground.T.g hmg
  exact lawG (mb := mb) ⟨kin, scr, tab, tabK, nums, Nat.le_trans few n2⟩ ground.T.g ground.T.b ground.T.builtins ground.T.nolimit gens codes ground.T.bmain room F bind (fun H hH hS => tr H a ns few bits hH hS) fun H e s' => none_ w H s₁ e s'
end DL
namespace DL
open PySem PySem.Spec PyProof.Rows L2
/-! ### a caught exception that outlives its suite -/
section
variable {X : Cx} {pins : List (Addr × Obj)} {σ : St} {H : Hp} {s : Shared} {a : Addr} {oe : Obj}
/-- the pinned exception is tracked from now on, as the object that it is -/
theorem Inv.held (I : Inv X ((a, oe) :: pins) σ H s) (new : X.s_0.heap.get? a = none) (others : ∀ p ∈ X.pn ++ pins, p.1 ≠ a) : Inv X pins σ (upd H a (.frz oe (.own a))) s := by
  obtain ⟨at_, free, nL, nF, nC⟩ := I.pin (a, oe) (List.mem_append_right _ List.mem_cons_self)
  have neH : ∀ {b : Addr} {o : HO}, H b = some o → b ≠ a := fun {b o} e z => by
    rw [z, free] at e
    cases e
  refine ⟨I.ok, I.os, I.bare, ⟨I.base.keep, I.base.slot, fun b o e h hx => ?_, I.base.there, fun b xs h => ?_, fun b o u h => ?_, fun b ps h => ?_⟩, I.loc, I.cell, ?_, fun x c e => ?_, fun p hp => ?_, HOk.laidN I.hok (fun _ _ e => e) free ⟨at_, _, at_⟩, I.len⟩
  · rw [upd_ne (fun z => by rw [z, new] at e; cases e)]
    exact I.base.free b o e h hx
  · have q := I.base.tups b xs h
    rw [upd_ne (neH q)]
    exact q
  · have q := I.base.frzs b o u h
    rw [upd_ne (neH q)]
    exact q
  · obtain ⟨m, q⟩ := I.base.tbls b ps h
    exact ⟨m, by rw [upd_ne (neH q)]; exact q⟩
  · rw [upd_ne (fun z => nL z.symm)]
    exact I.free
  · have ne : c ≠ a := fun z => by
      obtain ⟨v, o, ho, hd⟩ := I.cell x c e
      rw [z, at_] at ho
      cases ho
      exact nC v hd
    rw [upd_ne ne]
    exact I.freeC x c e
  · have q := I.pin p (by
      rcases List.mem_append.mp hp with z | z
      · exact List.mem_append_left _ z
      · exact List.mem_append_right _ (List.mem_cons_of_mem _ z))
    exact ⟨q.1, by rw [upd_ne (others p hp)]; exact q.2.1, q.2.2⟩
/-- what a body may let out to a clause 'except x as n' whose suite runs to its end -/
def wKeep (K : PySem.W.Frag) (m : Nat) (c : Value) (i : Nat) (ts : Addr → Value → Option Addr → TS) (D : Ends) : WX := fun cls d σ H => PySem.W.exmOne K cls c = some true ∧
  ∀ a oe, σ.length = m → H a = none → oe.cls = cls → oe.dict = d → (∃ vs, oe.data = .fields vs) →
    ts a cls d { nx := fun σ' H' => H' a = none → D.nx (σ'.set i none) (upd H' a (.frz oe (.own a))), rt := fun _ _ => False } (σ.set i (some (.ref a))) H
variable {x n : Str} {c : Value} {i : Nat} {body suite : List Stmt} {b₀ : Stmt} {np pos pos' : Pos} {tb : WX → TS} {ts : Addr → Value → Option Addr → TS}
theorem ps_try_keep (hs : X.stack = X.env :: X.outer) (hf : X.env.frame = some X.env.locals) (noEx : X.ex = []) (hN : X.N.Nodup) (hi : X.N[i]? = some n) (hln : X.env.kindOf n = some .local) (hc : Names X x c)
    (hb : ∀ (W : WX) (pn : List (Addr × Obj)) (xe : Value → Shared → Prop), Takes (X.tr pn xe) W → PassesOwn (model X.prog X.w) X.A X.env xe → PSs (X.tr pn xe) body (tb W))
    (hsu : ∀ (a : Addr) (oe : Obj) (cls : Value) (d : Option Addr) (pn : List (Addr × Obj)), Zc cls d oe → (∃ vs, oe.data = .fields vs) → PSs (X.suite a ((a, oe) :: pn)) (b₀ :: suite) (ts a cls d)) :
    PS X (.Try body [.ExceptHandler (some (.Name x np)) (some n) (b₀ :: suite) pos'] [] [] pos) (fun D σ H => tb (wKeep X.K X.N.length c i ts D) D σ H) := by
  refine ⟨fun pins s σ H D I h => wpAny_Try_except ?_⟩
  have ok := I.ok
  have top : X.A.frames = some (X.env :: X.outer) := ok.frames.trans (by rw [hs])
  have run := (hb (wKeep X.K X.N.length c i ts D) (X.pn ++ pins) (fun e s₁ => wpAny (model X.prog X.w) X.A (noteFrame e X.env) (fun _ s₂ => wpAny (model X.prog X.w) X.A (setFlight e none) (fun _ s₃ =>
    wpAny (model X.prog X.w) X.A (handleBy e X.env [.ExceptHandler (some (.Name x np)) (some n) (b₀ :: suite) pos']) (SP X pins D) X.xe s₃) X.xe s₂) X.xe s₁) (fun u s' air => ?_) PassesOwn.looking).run [] s σ H D (I.toTry _) h
  · refine wpAny_mono run (fun f s1 q => ?_) fun _ _ z => z
    cases f with
    | next =>
      obtain ⟨σ1, H1, J, q⟩ := q
      exact wpAny_execs_nil ⟨σ1, H1, J.ofTry ok, q⟩
    | ret u =>
      obtain ⟨v, σ1, H1, J, r, q⟩ := q
      exact ⟨v, σ1, H1, J.ofTry ok, r, q⟩
    | _ =>
      obtain ⟨σ1, H1, J, q⟩ := q
      exact ⟨σ1, H1, J.ofTry ok, q⟩
  · obtain ⟨a, B, sI, pins1, σ1, H1, cls, d, rfl, J0, ground, up, sky, free, os, bare, yes, goal⟩ := air
    have J : Inv X pins σ1 H1 sI := J0.ofTry ok
    rw [hs] at sky
    refine Sky.land Zc.steady top hf sky fun h3 fl3 up3 => ?_
    have outFrames : ∀ {h : Heap} {o : Obj} {vs : Array Value}, h.FunFrames B (X.env :: X.outer) → h.get? a = some o → o.data = .fields vs → a ∉ frs (X.env :: X.outer) := fun {h o vs} ff e dd hm => by
      obtain ⟨_, o1, e1, no⟩ := ff.mem hm
      rw [e1] at e
      cases e
      exact no _ dd
    obtain ⟨oe3, vs3, he3, hz3, hd3⟩ := fl3.there
    have outF := outFrames fl3.2.2.1 he3 hd3
    have nL : a ≠ X.env.locals := fun z => outF (List.mem_filterMap.mpr ⟨X.env, List.mem_cons_self, by rw [hf, z]⟩)
    have nF : a ∉ X.fs := fun hm => by
      obtain ⟨e, he, q⟩ := List.mem_filterMap.mp hm
      exact outF (List.mem_filterMap.mpr ⟨e, List.mem_cons_of_mem _ he, q⟩)
    have newI : sI.heap.get? a = none := by
      cases e : sI.heap.get? a with
      | none => rfl
      | some o =>
        have z := ground a o e (by rw [hs]; exact outF)
        rw [fl3.2.1] at z
        cases z
    have new0 : X.s_0.heap.get? a = none := by
      cases e : X.s_0.heap.get? a with
      | none => rfl
      | some o =>
        obtain ⟨o1, z⟩ := J.base.there a o e (by rw [noEx]; exact List.not_mem_nil)
        rw [newI] at z
        cases z
    have others : ∀ p ∈ X.pn ++ pins, p.1 ≠ a := fun p hp z => by
      have q := (J.pin p hp).1
      rw [z, newI] at q
      cases q
    have J3 : Inv X pins σ1 H1 { s' with heap := h3 } := J.landed ground fl3.1 (up.trans up3) os bare
    have S3 := J3.suite he3 hd3 free nL nF
    have kind : PySem.W.Looks (model X.prog X.w) h3 (typeOf (.ref a)) cls := fun A Q E s k q => wpAny_typeOf_ref (k _ _ he3) (by rw [hz3.1]; exact q)
    have asks := PySem.W.exm_one (M := model X.prog X.w) J3.kIn kind yes
    have named : ∀ {Q : Value → Shared → Prop} {E : Value → Shared → Prop}, Q c { s' with heap := h3 } → wpAny (model X.prog X.w) (X.A.mark (some (.ref a))) (eval (.Name x np) X.env) Q E { s' with heap := h3 } := fun {Q E} q => by
      obtain ⟨hg, hdb, hm | ⟨hm, hv, hn⟩⟩ := hc
      · exact ld_glob (X := X.suite a ((a, oe3) :: (X.pn ++ pins))) S3 hg hm q hdb
      · exact ld_blt (X := X.suite a ((a, oe3) :: (X.pn ++ pins))) S3 hg hm hv q hn hdb
    refine wpAny_handleBy_cons (codeAny_handlers_test (named (asks.here (codeAny_handlers_suite_as (HandSPX.lands_againZ fl3 fun h4 fl4 up4 => ?_))))) (by intro q; cases q)
    obtain ⟨oe4, vs4, he4, hz4, hd4⟩ := fl4.there
    have J4 : Inv X pins σ1 H1 { s' with heap := h4 } := J.landed ground fl4.1 ((up.trans up3).trans up4) os bare
    refine store_ok (X := X.suite a ((a, oe4) :: (X.pn ++ pins))) (v := .ref a) (J4.suite he4 hd4 free nL nF) hN hi (.inl hln) rfl (fun s5 S5 => ?_) (.inr hln)
    refine wpAny_mono ((hsu a oe4 cls d (X.pn ++ pins) hz4 ⟨_, hd4⟩).run [] s5 _ H1 _ S5 (goal a oe4 J.len free hz4.1 hz4.2 ⟨_, hd4⟩)) (fun f s6 q => ?_) (fun _ _ z => False.elim z)
    cases f with
    | next =>
      obtain ⟨σ6, H6, S6, q⟩ := q
      have P6 : Inv X ((a, oe4) :: pins) σ6 H6 s6 := by
        refine ⟨ok, S6.os, S6.bare, S6.base, S6.loc, S6.cell, S6.free, S6.freeC, fun p hp => S6.pin p (List.mem_append_left _ ?_), S6.hok, S6.len⟩
        rcases List.mem_append.mp hp with z | z
        · exact List.mem_cons_of_mem _ (List.mem_append_left _ z)
        · rcases List.mem_cons.mp z with z | z
          · rw [z]
            exact List.mem_cons_self
          · exact List.mem_cons_of_mem _ (List.mem_append_right _ z)
      exact gone_ok P6 hN hi hln fun s7 J7 => ⟨_, _, Inv.held J7 new0 others, q (J7.pin (a, oe4) (List.mem_append_right _ List.mem_cons_self)).2.1⟩
    | ret u =>
      obtain ⟨_, _, _, _, _, q⟩ := q
      exact q.elim
    | _ =>
      obtain ⟨_, _, _, q⟩ := q
      exact False.elim q
end
end DL
namespace DL
open PySem PySem.Spec PyProof.Rows L2
/-! ### a mark in the middle of a def: what is shared, and what is under way, is there again behind it -/
section
open Classical
/-- the ghost at the mark -/
noncomputable def mkG (G : Gh) (tmp : List (Addr × HO)) (F : Addr → Prop) (σ : St) (H : Hp) : Gh :=
  { G with S0 := σ, H0 := fun a => if F a ∨ a ∈ tmp.map (·.1) then H a else G.H0 a, F0 := F, M0 := G.M0.filter fun a => decide (a ∉ tmp.map (·.1)) }
variable {K : PySem.W.Frag} {G : Gh} {tmp tmp1 : List (Addr × HO)} {F F1 : Addr → Prop} {σ σ1 : St} {H H1 : Hp} {env env1 : EnvD} {fp fp1 : Nat → List Addr}
theorem mkG_H0 {a : Addr} (h : ¬ F a) (t : a ∉ tmp.map (·.1)) : (mkG G tmp F σ H).H0 a = G.H0 a := if_neg fun z => z.elim h t
theorem mkG_H1 {a : Addr} (h : F a ∨ a ∈ tmp.map (·.1)) : (mkG G tmp F σ H).H0 a = H a := if_pos h
theorem mkG_M0 {a : Addr} : a ∈ (mkG G tmp F σ H).M0 ↔ a ∈ G.M0 ∧ a ∉ tmp.map (·.1) := by
  show a ∈ G.M0.filter _ ↔ _
  rw [List.mem_filter, decide_eq_true_iff]
theorem SR.offTmp (S : SR K G tmp F σ H env fp) {a : Addr} {i : Nat} (h : a ∈ fp i) : a ∉ tmp.map (·.1) := fun z => by
  obtain ⟨p, hp, rfl⟩ := List.mem_map.mp z
  exact (S.tm p hp).2.2.2 i h
/-- own slots are lent -/
def pm1 : Sl → Sl
  | .ow d => .pm d
  | s => s
def pmE (env : EnvD) : EnvD := env.map pm1
theorem SR.mark (S : SR K G tmp F σ H env fp) : SR K (mkG G tmp F σ H) [] F σ H (pmE env) fp := by
  have at_ : ∀ {i : Nat} {s : Sl}, (pmE env)[i]? = some s → ∃ s0, env[i]? = some s0 ∧ s = pm1 s0 := fun {i s} h => by
    rw [pmE, List.getElem?_map] at h
    obtain ⟨s0, h1, h2⟩ := Option.map_eq_some_iff.mp h
    exact ⟨s0, h1, h2.symm⟩
  refine ⟨by rw [pmE, List.length_map]; exact S.len, fun i s h => ?_, S.dj, S.nf, fun i a h => ?_, fun i d e a h => ?_, S.own, fun p hp => (by cases hp), S.dom, fun a o h h1 h2 => ?_, fun a h => ⟨h, Kp.of (mkG_H1 (.inl h)).symm⟩, fun a h => .inl h, S.tabs, fun a h => S.m0 a (mkG_M0.mp h).1, fun _ _ _ _ _ => rfl, by rw [pmE, List.length_map]; exact Nat.le_of_eq S.len, fun p hp => (by cases hp)⟩
  · obtain ⟨s0, h1, rfl⟩ := at_ h
    obtain ⟨o, h2, h3⟩ := S.sl i s0 h1
    refine ⟨o, h2, ?_⟩
    cases s0 <;> exact h3
  · rw [mkG_H0 (S.nf i a h) (S.offTmp h)]
    exact (S.ne i a h).imp (fun z => mkG_M0.mpr ⟨z, S.offTmp h⟩) id
  · obtain ⟨s0, _, h2⟩ := at_ e
    cases s0 <;> cases h2
  · have nf : ¬ F a := h2
    by_cases t : a ∈ tmp.map (·.1)
    · rw [mkG_H1 (.inr t)] at h
      exact h
    · rw [mkG_H0 nf t] at h
      exact S.keepN a o h (fun z => h1 (mkG_M0.mpr ⟨z, t⟩)) fun z => nf (S.keepF a z).1
/-- the slots behind the mark: what was shared is as it was -/
def bk1 : Sl → Sl → Option Sl
  | .un, _ => some .un
  | .im d, _ => some (.im d)
  | .ow _, .pm d => some (.ow d)
  | .pm _, .pm d => some (.pm d)
  | .st _, .st n => some (.st n)
  | _, _ => none
def bkE : EnvD → EnvD → Option EnvD
  | [], _ => some []
  | s :: ss, t :: ts => match bk1 s t, bkE ss ts with
    | some u, some us => some (u :: us)
    | _, _ => none
  | _ :: _, [] => none
theorem bkE_at : ∀ {env env1 env2 : EnvD}, bkE env env1 = some env2 → env2.length = env.length ∧ ∀ (i : Nat) u, env2[i]? = some u → ∃ s t, env[i]? = some s ∧ env1[i]? = some t ∧ bk1 s t = some u
  | [], _, _, h => by
    cases h
    exact ⟨rfl, fun i u z => by simp at z⟩
  | s :: ss, t :: ts, env2, h => by
    simp only [bkE] at h
    split at h
    · rename_i u us h1 h2
      cases h
      obtain ⟨l, q⟩ := bkE_at h2
      refine ⟨by simp [l], fun i w z => ?_⟩
      cases i with
      | zero => simp at z; subst z; exact ⟨s, t, rfl, rfl, h1⟩
      | succ i => exact q i w (by simpa using z)
    · cases h
  | _ :: _, [], _, h => by cases h
/-- behind the mark -/
theorem SR.unmark (S : SR K G tmp F σ H env fp) (Z : SR K (mkG G tmp F σ H) tmp1 F1 σ1 H1 env1 fp1) {env2 : EnvD} (hb : bkE env env1 = some env2) : ∃ fp2, SR K G tmp F1 σ H1 env2 fp2 ∧ Ext F H F1 H1 := by
  have none_ : ∀ {a : Addr}, (mkG G tmp F σ H).H0 a = none → ¬ F a ∧ a ∉ tmp.map (·.1) ∧ G.H0 a = none := fun {a} h => by
    by_cases f : F a
    · obtain ⟨o, e, _⟩ := S.dom a f
      rw [mkG_H1 (.inl f), e] at h
      cases h
    · by_cases t : a ∈ tmp.map (·.1)
      · obtain ⟨p, hp, rfl⟩ := List.mem_map.mp t
        rw [mkG_H1 (.inr t), (S.tm p hp).1] at h
        cases h
      · rw [mkG_H0 f t] at h
        exact ⟨f, t, h⟩
  have ext : Ext F H F1 H1 := fun a h => by
    have k := Z.keepF a h
    rw [mkG_H1 (.inl h)] at k
    exact k
  obtain ⟨ln, at_⟩ := bkE_at hb
  have sub : ∀ {i : Nat} {a : Addr}, a ∈ (match env2[i]? with | some .un => [] | some (.im _) => [] | none => [] | _ => fp1 i) → a ∈ fp1 i := fun {i a} h => by
    split at h
    · cases h
    · cases h
    · cases h
    · exact h
  have held : ∀ {i : Nat} {s u : Sl}, env[i]? = some s → env1[i]? = some u → u.ps = true → i < σ.length → σ1[i]? = σ[i]? := fun {i s u} _ h2 h3 h4 => Z.par i u h2 h3 h4
  have inσ : ∀ {i : Nat} {s : Sl}, env[i]? = some s → i < σ.length := fun {i s} h => by
    rw [S.len]
    exact (List.getElem?_eq_some_iff.mp h).1
  refine ⟨fun i => match env2[i]? with | some .un => [] | some (.im _) => [] | none => [] | _ => fp1 i, ⟨S.len.trans ln.symm, fun i u h => ?_, fun i j a h1 h2 => Z.dj i j a (sub h1) (sub h2), fun i a h => Z.nf i a (sub h), fun i a h => ?_, fun i d e a h => ?_, fun i a h => Z.own i a (sub h), fun p hp => ?_, Z.dom, fun a o h h1 h2 => ?_, fun a h => ?_, fun a h => ?_, Z.tabs, fun a h => ?_, fun i u h p l => ?_, by rw [ln]; exact S.ls, S.td⟩, ext⟩
  · obtain ⟨s, t, h1, h2, h3⟩ := at_ i u h
    obtain ⟨o, h4, h5⟩ := S.sl i s h1
    refine ⟨o, h4, ?_⟩
    simp only [h]
    have same : t.ps = true → ∃ o', some o = some o' ∧ SlR K F1 H1 t o' (fp1 i) := fun tp => by
      obtain ⟨o', h6, h7⟩ := Z.sl i t h2
      rw [held h1 h2 tp (inσ h1), h4] at h6
      exact ⟨o', h6, h7⟩
    cases s with
    | un => cases h3; rfl
    | im d =>
      cases h3
      obtain ⟨_, v, e, q⟩ := h5
      exact ⟨rfl, v, e, q.mono ext⟩
    | ow d =>
      cases t <;> cases h3
      obtain ⟨o', e, q⟩ := same rfl
      cases e
      exact q
    | pm d =>
      cases t <;> cases h3
      obtain ⟨o', e, q⟩ := same rfl
      cases e
      exact q
    | st n =>
      cases t <;> cases h3
      obtain ⟨o', e, q⟩ := same rfl
      cases e
      exact q
  · exact (Z.ne i a (sub h)).imp (fun z => (mkG_M0.mp z).1) fun z => (none_ z).2.2
  · obtain ⟨s, t, h1, h2, h3⟩ := at_ i _ e
    have h := sub h
    cases s with
    | ow d0 =>
      cases t <;> cases h3
      obtain ⟨o, q1, b, q2, q3, _⟩ := S.sl i _ h1
      obtain ⟨o', q4, b', q5, q6, _⟩ := Z.sl i _ h2
      rw [held h1 h2 rfl (inσ h1), q1] at q4
      cases q4
      rw [q3] at q6
      cases q6
      rw [q5, List.mem_singleton] at h
      subst h
      exact S.loc i d0 h1 _ (by rw [q2]; exact List.mem_singleton.mpr rfl)
    | un => cases h3
    | im d0 => cases h3
    | pm d0 => cases t <;> cases h3
    | st n => cases t <;> cases h3
  · have t : p.1 ∈ tmp.map (·.1) := List.mem_map_of_mem hp
    obtain ⟨t1, t2, t3, t4⟩ := S.tm p hp
    refine ⟨Z.keepN p.1 p.2 (by rw [mkG_H1 (.inr t)]; exact t1) (fun z => (mkG_M0.mp z).2 t) t2, fun f => ?_, t3, fun i z => ?_⟩
    · rcases Z.grow _ f with q | q
      · exact t2 q
      · exact (none_ q).2.1 t
    · rcases Z.ne i _ (sub z) with q | q
      · exact (mkG_M0.mp q).2 t
      · exact (none_ q).2.1 t
  · have nf : ¬ F a := fun f => by
      rcases S.grow a f with q | q
      · exact h2 q
      · rw [q] at h; cases h
    by_cases t : a ∈ tmp.map (·.1)
    · obtain ⟨p, hp, rfl⟩ := List.mem_map.mp t
      rw [(S.tm p hp).2.2.1] at h
      cases h
    · exact Z.keepN a o (by rw [mkG_H0 nf t]; exact h) (fun z => h1 (mkG_M0.mp z).1) nf
  · obtain ⟨f, k⟩ := S.keepF a h
    obtain ⟨f1, k1⟩ := Z.keepF a f
    rw [mkG_H1 (.inl f)] at k1
    exact ⟨f1, k1.trans k⟩
  · rcases Z.grow a h with q | q
    · exact S.grow a q
    · exact .inr (none_ q).2.2
  · by_cases t : a ∈ tmp.map (·.1)
    · obtain ⟨p, hp, rfl⟩ := List.mem_map.mp t
      exact ⟨p.2, Z.keepN p.1 p.2 (by rw [mkG_H1 (.inr t)]; exact (S.tm p hp).1) (fun z => (mkG_M0.mp z).2 t) (S.tm p hp).2.1⟩
    · exact Z.m0 a (mkG_M0.mpr ⟨h, t⟩)
  · obtain ⟨s, t, h1, h2, h3⟩ := at_ i u h
    cases s with
    | un => cases h3; cases p
    | im d => cases h3; cases p
    | ow d => cases t <;> cases h3; cases p
    | pm d => exact S.par i _ h1 rfl l
    | st n => exact S.par i _ h1 rfl l
end
end DL
namespace DL
open PySem PySem.Spec PyProof.Rows L2
/-! ### c = None / try: a() / except X as e: c = e / rest -/
section
variable {K : PySem.W.Frag} {G : Gh} {tmp : List (Addr × HO)} {F : Addr → Prop} {σ σ' : St} {H : Hp} {env : EnvD} {fp : Nat → List Addr}
theorem SR.reun (S : SR K G tmp F σ H env fp) (hl : σ'.length = σ.length) (h : ∀ (i : Nat) (s : Sl), env[i]? = some s → s ≠ Sl.un → σ'[i]? = σ[i]?) : SR K G tmp F σ' H env fp := by
  refine ⟨hl.trans S.len, fun i s e => ?_, S.dj, S.nf, S.ne, S.loc, S.own, S.tm, S.dom, S.keepN, S.keepF, S.grow, S.tabs, S.m0, fun i s e p l => ?_, S.ls, S.td⟩
  · obtain ⟨o, h1, h2⟩ := S.sl i s e
    cases s with
    | un =>
      have hi : i < σ'.length := by rw [hl]; exact (List.getElem?_eq_some_iff.mp h1).1
      exact ⟨σ'[i], List.getElem?_eq_getElem hi, h2⟩
    | _ => exact ⟨o, (h i _ e (fun z => nomatch z)).trans h1, h2⟩
  · rw [h i s e (fun z => by rw [z] at p; cases p)]
    exact S.par i s e p l
end
/-- what stands behind the try, run with the caught thing v -/
def RestP (K : PySem.W.Frag) (wr : WS) (v : V) (H : Hp) (Q : VK) : Prop := ∃ G F fp d Dd, SR K G [] F [none, some v, none] H [.un, .im d, .un] fp ∧ wr [.un, .im d, .un] Dd ∧ EndR K G [] F H Dd { nx := fun _ H2 => Q .non H2, rt := Q }
def TTc (K : PySem.W.Frag) (CS : Addr) (wr : WS) : (XK → Hp → VK → Prop) → Hp → VK → Prop := fun tl H Q =>
  tl (fun cls od H1 => PySem.W.exmOne K cls (.ref CS) = some true ∧ ∀ a oe, H1 a = none → oe.cls = cls → oe.dict = od → (∃ vs, oe.data = .fields vs) → RestP K wr (.ref a) (upd H1 a (.frz oe (.own a))) Q) H fun _ H1 => RestP K wr .non H1 Q
section
variable {X : Cx}
abbrev catCx (X : Cx) (x a c e : Str) (sg : Scope) (g : Addr) (cdg : Value) (s : Shared) (H : Hp) : Cx := (cxOf C8.CX0 X.prog X.w X.K X.mg X.base [a, c, e] x sg g cdg X.A X.stack s H C8.E0).nox
theorem catch_gives {x a c e xn q : Str} {sg : Scope} {g CS : Addr} {cdg : Value} {rest : List Stmt} {wr : WS} {kn : Const} {k0 : Nat} {p0 p1 p2 p3 p4 p5 p6 p7 p8 p9 pa pb : Pos}
    (nd : [a, c, e].Nodup) (lc : sg.names.lookup c = some .local) (le : sg.names.lookup e = some .local) (gx : sg.names.lookup xn = some .globalImplicit) (mx : X.mg xn = some (.ref CS)) (dx : (xn == ("__debug__" : Str)) = false) (de : (e == ("__debug__" : Str)) = false) (dc : (e == ("__classdict__" : Str)) = false)
    (hnon : ∀ (s : Shared) (H : Hp), PE (catCx X x a c e sg g cdg s H) (.Constant kn k0 pb) (tC .non))
    (hw1 : ∀ (s : Shared) (H : Hp), swapsWith (.Constant kn k0 pb) (some (.Name c pa)) p0.line (catCx X x a c e sg g cdg s H).env = pure false) (hw2 : ∀ (s : Shared) (H : Hp), swapsWith (.Call (.Name a p1) [] [] p2) none p3.line (catCx X x a c e sg g cdg s H).env = pure false)
    (hw3 : ∀ (s : Shared) (H : Hp), swapsWith (.Name e p6) (some (.Name c p5)) p7.line (catCx X x a c e sg g cdg s H).env = pure false)
    (hrest : ∀ (s : Shared) (H : Hp) (G : Gh), DSs (catCx X x a c e sg g cdg s H) G rest wr) :
    LamX.GivesTo X [a, c, e] x sg g cdg (.Assign [.Name c pa] (.Constant kn k0 pb) p0 :: .Try [.Expr (.Call (.Name a p1) [] [] p2) p3] [.ExceptHandler (some (.Name xn p4)) (some e) [.Assign [.Name c p5] (.Name e p6) p7] p8] [] [] p9 :: rest) a q (TTc X.K CS wr) := by
  intro f c' s H Q tl act hc h
  have last : PSs (catCx X x a c e sg g cdg s H) rest (fun D σ H => ∃ G, liftS X.K G wr D σ H) := ⟨fun pins s1 σ H1 D I ⟨G, h⟩ => (hrest s H G).run pins s1 σ H1 D I h⟩
  have first := ps_set (X := catCx X x a c e sg g cdg s H) (i := 1) (x := c) (pos := p0) (pos' := pa) nd rfl (.inl lc) (hnon s H) (hw1 s H)
  have suite : ∀ (b : Addr) (oe : Obj) (cls : Value) (d : Option Addr) (pn : List (Addr × Obj)), Zc cls d oe → (∃ vs, oe.data = .fields vs) →
      PSs ((catCx X x a c e sg g cdg s H).suite b ((b, oe) :: pn)) [.Assign [.Name c p5] (.Name e p6) p7] (tAsg (tVar 2) (gName 1)) := fun b oe cls d pn _ _ =>
    pss_one (ps_set (X := (catCx X x a c e sg g cdg s H).suite b ((b, oe) :: pn)) (i := 1) (x := c) (pos := p7) (pos' := p5) nd rfl (.inl lc) (pe_var rfl (.inl le) de dc) (hw3 s H))
  have mid := ps_try_keep (X := catCx X x a c e sg g cdg s H) (x := xn) (n := e) (c := .ref CS) (i := 2) (np := p4) (pos := p9) (pos' := p8) rfl rfl rfl nd rfl le ⟨gx, dx, .inl mx⟩
    (tb := fun W D σ H1 => ∃ E : XK, (∀ cls d σ' H', E cls d H' → W cls d σ' H') ∧ σ[0]? = some (some (.ref f)) ∧ H1 c' = some (LamX.CodeO c' q) ∧ ∃ Q1 : VK, tl E H1 Q1 ∧ ∀ x H2, Q1 x H2 → D.nx σ H2)
    (body := [.Expr (.Call (.Name a p1) [] [] p2) p3]) (fun W pn xe tk _ => ?_) suite
  · refine ⟨_, pss_cons first (pss_cons mid last), ?_⟩
    have put : ∀ {σ1 : St} {v : V} {H1 : Hp}, σ1.length = 3 → σ1[1]? = some (some v) → RestP X.K wr v H1 Q → ∃ G, liftS X.K G wr { nx := fun _ H2 => Q .non H2, rt := Q } σ1 H1 := fun {σ1 v H1} hl h1 ⟨G, F, fp, d, Dd, S, w, k⟩ => by
      refine ⟨G, [], F, _, fp, Dd, S.reun hl fun i s e z => ?_, w, k⟩
      match i, e with
      | 0, e => cases e; exact absurd rfl z
      | 1, e => exact h1
      | 2, e => cases e; exact absurd rfl z
      | i + 3, e => cases e
    refine ⟨_, ?_, rfl, hc, _, h, fun x H2 z => put rfl rfl z⟩
    rintro cls d σ' H' ⟨yes, go⟩
    refine ⟨yes, fun b oe len nb hcl hd hv => ?_⟩
    have l3 : σ'.length = 3 := len
    match σ', l3 with
    | [o0, o1, o2], _ => exact ⟨.ref b, rfl, fun _ => put rfl rfl (go b oe nb hcl hd hv)⟩
  · refine ⟨fun pins s1 σ H1 D I z => ?_⟩
    obtain ⟨E, hW, h1, h2, Q1, h3, hq⟩ := z
    have call := act W pn xe E p1 p2 tk hW
    have call2 : PE ((catCx X x a c e sg g cdg s H).tr pn xe) (.Call (.Name a p1) [] [] p2) (fun σ H Q => σ[0]? = some (some (.ref f)) ∧ H c' = some (LamX.CodeO c' q) ∧ ∃ Q1 : VK, tl E H Q1 ∧ ∀ x H2, Q1 x H2 → Q x H2) :=
      ⟨fun pins s σ H Q I ⟨a1, a2, Q1, a3, a4⟩ => wpAny_mono (call.run pins s σ H Q1 I ⟨a1, a2, a3⟩) (fun v s2 ⟨y, H2, I2, r, q⟩ => ⟨y, H2, I2, r, a4 _ _ q⟩) fun _ _ z => z⟩
    exact (pss_one (ps_expr (pos := p3) call2 (hw2 s H))).run pins s1 σ H1 D I ⟨h1, h2, Q1, h3, fun x H2 z => hq x H2 z⟩
end
end DL
namespace DL
open PySem PySem.Spec PyProof.Rows L2
/-! ### a lambda handed to a def that catches -/
/-- the tables are what may change, and nothing else is borrowed -/
def LamG (G : Gh) : Prop := (∀ a ps, G.H0 a = some (.tbl ps) → a ∈ G.M0) ∧ ∀ a ∈ G.M0, a ∈ G.T.map (·.1)
section
variable {K : PySem.W.Frag} {G : Gh} {tmp : List (Addr × HO)} {F : Addr → Prop} {σ : St} {H H1 : Hp} {env : EnvD} {fp : Nat → List Addr}
theorem data_tbl {o : HO} (h : dataO o = true) : ∀ ps, o ≠ .tbl ps := fun ps e => by
  rw [e] at h
  cases h
theorem ext_lam (S : SR K G tmp F σ H env fp) (e : LamX.ExtN H H1) : Ext F H F H1 := fun a f => by
  obtain ⟨o, h, d⟩ := S.dom a f
  exact ⟨f, Kp.of ((e a o h (data_tbl d)).trans h.symm)⟩
theorem SR.lam (S : SR K G tmp F σ H env fp) (e : LamX.ExtN H H1) (t : LamX.Tabs G.T H1) (hG : LamG G) : SR K G tmp F σ H1 env fp := by
  have same : ∀ {a : Addr} {o : HO}, H a = some o → dataO o = true → H1 a = some o := fun h d => e _ _ h (data_tbl d)
  refine ⟨S.len, fun i s h => ?_, S.dj, S.nf, S.ne, S.loc, fun i a h => ?_, fun p hp => ?_, fun a f => ?_, fun a o h h1 h2 => ?_, fun a f => ?_, S.grow, t, fun a h => ?_, S.par, S.ls, S.td⟩
  · obtain ⟨o, h1, h2⟩ := S.sl i s h
    refine ⟨o, h1, h2.same (ext_lam S e) fun a ha => ?_⟩
    obtain ⟨u, hu, du⟩ := h2.data a ha
    exact (same hu du).trans hu.symm
  · obtain ⟨o, h1, d⟩ := S.own i a h
    exact ⟨o, same h1 d, d⟩
  · obtain ⟨h1, h2⟩ := S.tm p hp
    exact ⟨same h1 (S.td p hp), h2⟩
  · obtain ⟨o, h1, d⟩ := S.dom a f
    exact ⟨o, same h1 d, d⟩
  · exact e a o (S.keepN a o h h1 h2) fun ps z => h1 (hG.1 a ps (by rw [h, z]))
  · obtain ⟨f1, k⟩ := S.keepF a f
    exact ⟨f1, ((ext_lam S e) a f1).2.trans k⟩
  · obtain ⟨p, hp, rfl⟩ := List.mem_map.mp (hG.2 a h)
    obtain ⟨ps, h1, _⟩ := t p hp
    exact ⟨_, h1⟩
end
def xD (x : XD) : D := .exc x.c (match x.f with
  | some (f, d) => [(f, d)]
  | none => [])
def catEnds (Q : R → EnvD → Prop) (env : EnvD) : DEnds := ⟨fun _ => Q (.sh .non) env, fun r _ => ∃ d, r = .sh d ∧ Q (.sh d) env, fun _ => False, fun _ => False⟩
def wCatch (subs : Str → Bool) (wr : WS) (we : (XD → EnvD → Prop) → WE) : WE := fun env Q =>
  we (fun x env1 => ∃ env2, bkE env env1 = some env2 ∧ subs x.c = true ∧ wr [.un, .im (xD x), .un] (catEnds Q env2)) (pmE env) fun _ env1 => ∃ env2, bkE env env1 = some env2 ∧ wr [.un, .im .non, .un] (catEnds Q env2)
section
variable {K : PySem.W.Frag} {G : Gh} {tmp : List (Addr × HO)} {F : Addr → Prop} {σ : St} {H : Hp} {env : EnvD} {fp : Nat → List Addr} {wr : WS}
/-- what stands behind the try, from the caller's state -/
theorem rest_of (S : SR K G tmp F σ H env fp) {d : D} {v : V} {Q : VK} {Qd : R → EnvD → Prop} (hd : Dat K F H d v) (w : wr [.un, .im d, .un] (catEnds Qd env))
    (k : ∀ r env' v H' F' fp', Ext F H F' H' → SR K G tmp F' σ H' env' fp' → RV K G tmp F' σ H' env' fp' v r → Qd r env' → Q v H') : RestP K wr v H Q := by
  have S1 := (S.enter (as := []) (vs := []) .nil (by simp [ixs]) rfl).more 3
  have S2 := S1.setIm (i := 1) (by simp [uns]) hd
  have out : ∀ {F' : Addr → Prop} {σ2 : St} {H' : Hp} {env2 : EnvD} {fp2 : Nat → List Addr}, SR K (ghOf G.T H F fp [] []) [] F' σ2 H' env2 fp2 → ∃ fp3, Ext F H F' H' ∧ SR K G tmp F' σ H' env fp3 := fun {F' σ2 H' env2 fp2} Z => by
    obtain ⟨e, S3⟩ := S.leave (as := []) (vs := []) .nil (by simp [ixs]) (m := 0) (Nat.le_refl _) Z
    have pb : putBack env [] (env2.take 0) = env := by
      unfold putBack
      rfl
    rw [pb] at S3
    exact ⟨_, e, S3⟩
  refine ⟨_, F, _, d, _, S2, w, fun env' σ' H' F' fp' _ Z q => ?_, fun r env' σ' v' H' F' fp' _ Z rv q => ?_, fun _ _ _ _ _ _ _ q => q.elim, fun _ _ _ _ _ _ _ q => q.elim⟩
  · obtain ⟨fp3, e, S3⟩ := out Z
    exact k (.sh .non) env .non H' F' fp3 e S3 .non q
  · obtain ⟨d', rfl, q⟩ := q
    obtain ⟨fp3, e, S3⟩ := out Z
    exact k (.sh d') env v' H' F' fp3 e S3 rv q
end
section
open LamX (lamCx lamEnv LamS TabB GivesTo)
variable {X : Cx} {G : Gh}
/-- x(lambda: body), where x catches: DE of the call -/
theorem de_catch {x a c e : Str} {g cA P CS : Addr} {k : Nat} {pg : Arguments} {bg : List Stmt} {sg : Scope} {fd : FuncData} {params : Arguments} {body : Expr} {scope : Scope} {p lpos pos : Pos} {wr : WS} {subs : Str → Bool} {we : (XD → EnvD → Prop) → WE}
    (fn : FunD X.K x x pg bg sg [] [] g fd) (hm : X.mg x = some (.ref g)) (hg : Gl X x) (hb : Binds X.K fd [a] []) (sc : FnScope [a, c, e] [a] sg) (hva : Vis sg a) (hG : ∀ cdg, GivesTo X [a, c, e] x sg g cdg bg a (X.env.qual ++ "<lambda>") (TTc X.K CS wr))
    (tab : TabB X.base X.mg cA P) (hcode : X.env.code = .ref cA) (hmT : (P, X.env.qual ++ "<lambda>") ∈ G.T) (hu : ∀ p ∈ G.T, p.1 = P → p.2 = X.env.qual ++ "<lambda>") (hr : Room (k + 2) X.A) (L : LamS X.env.scope scope) (hdef : defaultsOf params X.env = ([], []))
    (hbind : ∀ (q : Str) (cl : List (Str × Addr)) (pm cv ctv : Value), bindArgs (PySem.W.kla_fn "<lambda>" q params body scope cl pm cv ctv) ⟨[], []⟩ = pure []) (hLG : LamG G) (hsubs : ∀ c, subs c = true → PySem.W.exmOne X.K (.ref (He.ga X.K c)) (.ref CS) = some true)
    (hbody : ∀ (A : Around) (out : List Env) (s : Shared) (H : Hp) (E : XK) (f c' : Addr) (G' : Gh) (Ed : XD → EnvD → Prop), Room k (A.deeper (lamEnv X scope s.heap.objs.size f c')) → Link X.K G' E Ed → DE (lamCx X A out s H E scope f c') G' body (we Ed))
    (hdb : (x == ("__debug__" : Str)) = false := by decide) (hd : (a == ("__debug__" : Str)) = false := by decide) (hcd : (a == ("__classdict__" : Str)) = false := by decide) : DE X G (.Call (.Name x p) [.Lambda params body scope lpos] [] pos) (wCatch subs wr we) := by
  obtain ⟨oc, od, dV, kV, doc, pm, an, cdv, ct, osl, rfl, lk, code, _, _⟩ := fn.ex
  refine PE.imp (LamX.pe_lamcall (T := G.T) (TT := TTc X.K CS wr) (t := fun E σ H Q => ∃ G' Ed, Link X.K G' E Ed ∧ lift X.K G' (we Ed) σ H Q) hg hm fn.kp lk code hb sc rfl hva (hG cdv) tab hcode hmT hu hr L hdef hbind
    (fun A out s H E f c' hr' => ⟨fun pins s1 σ H1 Q I ⟨G', Ed, hl, z⟩ => (hbody A out s H E f c' G' Ed hr' hl).run pins s1 σ H1 Q I z⟩) hdb hd hcd) fun σ H Q h => ?_
  obtain ⟨tmp, F, env, fp, Qd, S, w, k⟩ := h
  refine ⟨S.tabs, fun H1 eN T1 => ?_⟩
  have S1 := S.lam eN T1 hLG
  have e1 := ext_lam S eN
  refine ⟨mkG G tmp F σ H1, fun xd env1 => ∃ env2, bkE env env1 = some env2 ∧ subs xd.c = true ∧ wr [.un, .im (xD xd), .un] (catEnds Qd env2), ?_, [], F, pmE env, fp, _, S1.mark, w, ?_⟩
  · intro xd cv od' tmp' F' σ' H' env' fp' S' xr ed
    obtain ⟨env2, hbk, hs, w2⟩ := ed
    obtain ⟨fp2, S2, e2⟩ := S1.unmark S' hbk
    obtain ⟨rfl, xr⟩ := xr
    refine ⟨hsubs _ hs, fun b oe nb hc hdd hv => ?_⟩
    obtain ⟨S3, e3⟩ := S2.newSh (o := .frz oe (.own b)) nb rfl
    have dat : Dat X.K (fun z => F' z ∨ z = b) (upd H' b (.frz oe (.own b))) (xD xd) (.ref b) := by
      obtain ⟨xc, xf⟩ := xd
      cases xf with
      | none => exact .exc (.inr rfl) upd_same hc hv (.inl ⟨rfl, by rw [hdd]; exact xr⟩) .nil
      | some q =>
        obtain ⟨f0, d0⟩ := q
        obtain ⟨dd, v0, rfl, fdd, hx, dv⟩ := xr
        exact .exc (.inr rfl) upd_same hc hv (.inr ⟨dd, hdd, .inl fdd, by rw [upd_ne (ne_of_none hx nb)]; exact hx⟩) (.cons (dv.mono e3) .nil)
    exact rest_of S3 dat w2 fun r env3 v H3 F3 fp3 e4 S4 r4 q => k r env3 v H3 F3 fp3 (((e1.trans e2).trans e3).trans e4) S4 r4 q
  · intro r env1 v H2 F2 fp2 _ S2 _ q
    obtain ⟨env2, hbk, q⟩ := q
    obtain ⟨fp3, S3, e3⟩ := S1.unmark S2 hbk
    exact rest_of S3 .non q fun r env3 v H3 F3 fp3 e4 S4 r4 q => k r env3 v H3 F3 fp3 ((e1.trans e3).trans e4) S4 r4 q
end
end DL
namespace DL
open PySem PySem.Spec PyProof.Rows L2
/-! ### isinstance of an own exception that has a dict -/
section
open PySem.W (Frag InstAt findObj clsIn findIn specialIn takesIn hasDictIn subIn mroIn typeIn kitOne looks_findIn looks_find looks_subIn Looks any_some KitX)
variable {prog : Program} {w : World} {A : Around} {E : Value → Shared → Prop} {s : Shared} {K : Frag} {x D : Addr} {ox : Obj} {od : Option Obj}
theorem find_data {C : Addr} {m : Str} {a g : Value} (has : (clsIn K C).isSome = true) (at_ : findIn K (.ref C) m = some (some a)) (get : specialIn K a "__get__" = some (some g)) (takes : takesIn K a = some true) : findObj K C od m = some (.bind g a) := by
  cases hc : clsIn K C with
  | none => rw [hc] at has; cases has
  | some cd => simp [findObj, hc, at_, get, takes]
theorem class_of_exc {Q : Option Value → Shared → Prop} (c : ExcC K D) (kin : K.In s.heap) (I : InstAt s.heap x ox D od) (q : Q (some (.ref D)) { s with toks := s.toks + 1 }) : wpAny (model prog w) A (getAttr? (.ref x) "__class__") Q E s := by
  obtain ⟨cd, hc, _⟩ := any_some c.hd
  have found : findObj K D od "__class__" = some (.bind (.builtin "getset_descriptor.__get__") (.builtin "object.__class__")) := find_data (by rw [hc]; rfl) c.ha c.hn c.ht
  obtain ⟨h, gs, dr, tk, os⟩ := s
  have lt := I.type (M := model prog w)
  have base : Looks (model prog w) h (isInstance (.ref x) (.type "BaseException")) true := lt.andThen (looks_subIn kin c.hs)
  have n2 : (Value.builtin "BaseException.__getattribute__" == Value.builtin "object.__getattribute__") = false := by decide +kernel
  have n1 : ¬ ((onTheHeap (Value.ref D) && Value.builtin "BaseException.__getattribute__" == Value.builtin "object.__getattribute__") = true) := by rw [n2]; exact Bool.false_ne_true
  simp only [getAttr?, getAttrBy?, getAttrBy]
  refine wpAny_bind (wpAny_mkText (wpAny_bind (wpAny_attempt (wpAny_holding (wpAny_bind (lt.at (wpAny_bind ((looks_findIn (M := model prog w) kin c.hg).at ?_))))))))
  show wpAny _ _ (if (onTheHeap (Value.ref D) && Value.builtin "BaseException.__getattribute__" == Value.builtin "object.__getattribute__") = true then _ else _) _ _ _
  rw [if_neg n1]
  unfold getAttrByItsOwn hookBefore
  refine wpAny_bind ?_
  have heap_ : onTheHeap (Value.ref D) = true := by rfl
  rw [if_pos heap_]
  refine (looks_findIn (M := model prog w) kin c.hk).at (wpAny_bind (wpAny_attempt (wpAny_holding ?_)))
  unfold callGetattribute
  rw [if_neg (show ¬ ((false && onTheHeap (Value.builtin "BaseException.__getattribute__")) = true) from Bool.false_ne_true)]
  unfold boundAndCalled
  rw [PySem.F.excAttr_ValueError.ga.bind (.ref x)]
  refine wpAny_bind (wpAny_pure (wpAny_call (codeAny_call_builtin PySem.F.excAttr_ValueError.ga.plain PySem.F.entry_bexc_ga ?_)))
  refine @PySem.W.check_slot (model prog w) _ _ ⟨h, gs, dr, tk + 1, os⟩ "BaseException.__getattribute__" "BaseException" "__getattribute__" (.ref x) [.str "__class__" tk] [] _ (by decide +kernel) (by decide +kernel) base (PySem.F.args_bexc_ga (.ref x) (.str "__class__" tk)) ?_
  unfold Builtin.«object.__getattribute__»
  refine wpAny_bind (wpAny_of_eq (a := ((Value.ref x : Value), [Value.str "__class__" tk])) (by first | rfl | (simp only [slotArgs]; rfl)) (wpAny_bind (wpAny_pure (wpAny_bind (lt.at (wpAny_bind ((looks_find (M := model prog w) kin I found).at ?_)))))))
  show wpAny _ _ (holding [Value.builtin "object.__class__"] (call (.builtin "getset_descriptor.__get__") [.builtin "object.__class__", .ref x, .ref D]) >>= ret) _ _ _
  refine wpAny_bind (wpAny_holding (wpAny_call (PySem.W.class_get (s := ⟨h, gs, dr, tk + 1, os⟩) (ox := ox) (od := od) kin I c.hm (wpAny_pure ?_))))
  show wpAny _ _ (handedOut (.ref D)) _ _ _
  rw [PySem.W.handedOut_of (v := .ref D) rfl]
  first
    | exact wpAny_pure (wpAny_pure q)
    | exact wpAny_pure q
    | exact wpAny_pure (wpAny_bind (wpAny_pure (wpAny_pure q)))
theorem kit_exc (c : ExcC K D) : KitX K (.ref x) (.ref D) (fun h => InstAt h x ox D od) where
  ty := fun _ _ _ I => I.type
  it := fun M h kin _ => by
    obtain ⟨cd, hc, _⟩ := any_some c.hd
    unfold clsIn at hc
    split at hc
    · rename_i c0 d0 cd0 sl0 at_
      intro A1 Q1 E1 s1 kp q
      exact wpAny_bind (wpAny_loadPart (kp _ _ (kin _ _ at_)) (wpAny_pure q))
    · cases hc
  ne := (PySem.W.handS_kitx_exc (x := x) (ox := ox) c.hg c.hk c.hs c.hd c.ha c.hn c.ht c.hm).ne
  ca := fun kin I q => class_of_exc c kin I q
end
/-- what is asked of an own exception that is held -/
def rIsX (K : PySem.W.Frag) : List V → Hp → VK → Prop := fun xs H Q => ∃ (a C : Addr) (oe : Obj) (u : HO) (t : V) (cv : Value) (b : Bool), xs = [.ref a, t] ∧ H a = some (.frz oe u) ∧ oe.cls = .ref C ∧ (∃ vs, oe.data = .fields vs) ∧
  (oe.dict = none ∨ ∃ dd o, oe.dict = some dd ∧ H dd = some o ∧ ∃ gs, o = .xd gs) ∧ ExcC K C ∧ ClsV t cv ∧ PySem.W.kitOne K (.ref C) cv = some b ∧ Q (.bl b) H
theorem inst_exc {P : Program} {w : World} {H : Hp} {h : Heap} (ok : HOk P w H h) {a C : Addr} {oe : Obj} {u : HO} (h1 : H a = some (.frz oe u)) (hc : oe.cls = .ref C) (hv : ∃ vs, oe.data = .fields vs) (hd : oe.dict = none ∨ ∃ dd o, oe.dict = some dd ∧ H dd = some o ∧ ∃ gs, o = .xd gs) :
    ∃ od, PySem.W.InstAt h a oe C od := by
  obtain ⟨at_, _⟩ := ok a _ h1
  obtain ⟨vs, hv⟩ := hv
  rcases hd with hd | ⟨dd, o, hd, h2, gs, rfl⟩
  · exact ⟨none, at_, hc, by unfold PySem.W.notCls; rw [hv] <;> rfl, by rw [hd]; trivial⟩
  · obtain ⟨mA, ns, _⟩ := ok dd _ h2
    obtain ⟨od, ho, _⟩ := lookIn_ns ns
    exact ⟨some od, at_, hc, by unfold PySem.W.notCls; rw [hv] <;> rfl, by rw [hd]; exact ho⟩
theorem call_isX {X : Cx} : CallR X (.builtin "isinstance") (rIsX X.K) := by
  intro pins s σ H xs us Q I r h
  obtain ⟨a, C, oe, u, t, cv, b, rfl, h1, hc, hv, hd, ex, ht, kit, q⟩ := h
  obtain ⟨u1, u2, rfl, r1, r2⟩ := vals2 r
  cases (show u1 = Value.ref a from r1)
  obtain ⟨od, J⟩ := inst_exc I.hok h1 hc hv hd
  obtain rfl := ClsV.eq ht r2
  exact PySem.W.kia_one (kit_exc ex) I.kIn J kit (fun z => nomatch z) fun tk => ⟨.bl b, H, I.kept (t' := tk) fun _ _ z => z, rfl, q⟩
end DL
namespace DL
open PySem PySem.Spec PyProof.Rows L2
/-! ### held exceptions as data: isinstance, fields -/
section
variable {K : PySem.W.Frag} {F : Addr → Prop} {H : Hp}
theorem Lk.exc {c : Str} {fs : List (Str × D)} {v : V} (h : Lk K F H (.exc c fs) v) : ∃ (a : Addr) (oe : Obj) (gs : List (Str × V)), v = .ref a ∧ H a = some (.frz oe (.own a)) ∧ oe.cls = .ref (He.ga K c) ∧ (∃ vs, oe.data = .fields vs) ∧
    ((gs = [] ∧ oe.dict = none) ∨ ∃ dd, oe.dict = some dd ∧ F dd ∧ H dd = some (.xd gs)) ∧ DatF K F H fs gs := by
  rcases h with h | ⟨a, rfl, o⟩
  · cases h with
    | exc f h hc hv hd r => exact ⟨_, _, _, rfl, h, hc, hv, hd, r⟩
  · exact o.elim
end
/-- isinstance where exceptions may come -/
def isX (tab : String → Bool) (own exo : Str → Option Bool) : D → Option Bool
  | .exc c _ => exo c
  | d => isA tab own d
section
variable {X : Cx} {G : Gh} {e ce : Expr} {we : WE} {x : Str} {p pos : Pos} {tab : String → Bool} {own exo : Str → Option Bool} {f : Str}
theorem de_isiX {c : V} {u : Value} (is : IsF X.K [u] tab own) (ex : ∀ c r, exo c = some r → ExcC X.K (He.ga X.K c) ∧ PySem.W.kitAny X.K (.ref (He.ga X.K c)) [u] = some r) (hu : ClsV c u) (hg : Gl X "isinstance") (hm : X.mg "isinstance" = none) (he : DE X G e we) (hc : PE X ce (tC c))
    (h1 : starEach [e, ce] X.env = (false, eval e X.env) :: starEach [ce] X.env := by rfl) (h2 : starEach [ce] X.env = (false, eval ce X.env) :: starEach [] X.env := by rfl) (hpl : (backTo pos (starEach [ce] X.env)).any (·.1) = false := by rfl) :
    DE X G (.Call (.Name "isinstance" p) [e, ce] [] pos) (wIsi (isX tab own exo) we) := by
  refine PE.imp (pe_callB (CallR.or call_isi call_isX) hg hm (by decide +kernel) (pa_cons he (pa_cons hc pa_nil h2) h1) (by decide) (by decide) h1 hpl) fun σ H Q h => ?_
  obtain ⟨tmp, F, env, fp, Qd, S, h, k⟩ := h
  refine lift1 S h fun r env1 v H1 F1 fp1 e1 S1 r1 h1 => ?_
  split at h1
  · rename_i b hb
    obtain ⟨d, h2, h3⟩ := Option.bind_eq_some_iff.mp hb
    have l := Lk.of_pk S1 r1 h2
    have done := k (.sh (.bl b)) _ (.bl b) _ _ _ e1 S1 .bl h1
    have old : isA tab own d = some b → (rIsi X.K [v, c] H1 Q ∨ rIsX X.K [v, c] H1 Q) := fun h3 => by
      obtain ⟨g1, g2⟩ := is.get h3 l
      exact .inl ⟨v, c, _, u, b, rfl, hu, g1, kit_one g2, done⟩
    cases d with
    | exc xc fs =>
      obtain ⟨a, oe, gs, rfl, q1, q2, q3, q4, _⟩ := l.exc
      obtain ⟨g1, g2⟩ := ex xc b h3
      refine .inr ⟨a, _, oe, _, c, u, b, rfl, q1, q2, q3, ?_, g1, hu, kit_one g2, done⟩
      rcases q4 with ⟨_, z⟩ | ⟨dd, z1, _, z2⟩
      · exact .inl z
      · exact .inr ⟨dd, _, z1, z2, gs, rfl⟩
    | _ => exact old h3
  · exact h1.elim
/-- err.f -/
def wXf (cs : List Str) (f : Str) (we : WE) : WE := fun env Q => we env fun r env1 => match pk env1 r with
  | some (.exc c fs) => c ∈ cs ∧ (match fs.lookup f with
    | some d => Q (.sh d) env1
    | none => False)
  | _ => False
def tXv (K : PySem.W.Frag) (f : Str) (te : TE) : TE := fun σ H Q => te σ H fun x H1 => ∃ (a C : Addr) (oe : Obj) (u : HO) (dd : Addr) (gs : List (Str × V)) (v : V), x = .ref a ∧ H1 a = some (.frz oe u) ∧ oe.cls = .ref C ∧ (∃ vs, oe.data = .fields vs) ∧ oe.dict = some dd ∧ H1 dd = some (.xd gs) ∧ gs.lookup f = some v ∧
  XfC K C ∧ PySem.W.findIn K (.ref C) f = some none ∧ Q v H1
theorem pe_xv {te : TE} (he : PE X e te) (hb : attributeBase e f X.env (eval e X.env) = eval e X.env := by rfl) : PE X (.Attribute e f pos) (tXv X.K f te) := by
  refine ⟨fun pins s σ H Q I h => attr_of hb (thn (he.run pins s σ H _ I h) ?_)⟩
  rintro u0 s1 ⟨x, H1, I1, rx, a, C, oe, u, dd, gs, v, rfl, h1, hc, ⟨vs, hv⟩, hd, h2, l, T, hno, q⟩
  cases (show u0 = Value.ref a from rx)
  obtain ⟨at_, _⟩ := I1.hok a _ h1
  obtain ⟨mA, ns, hr⟩ := (show ObjOk X.prog X.w H1 s1.heap dd (.xd gs) from I1.hok dd _ h2)
  obtain ⟨od, ho, hl⟩ := lookIn_ns ns
  obtain ⟨w, hw, rw_⟩ := RelO.some_of (v := v) (o := mA f) (by rw [← l]; exact hr f)
  have J : PySem.W.InstAt s1.heap a oe C (some od) := ⟨at_, hc, by unfold PySem.W.notCls; rw [hv] <;> rfl, by rw [hd]; exact ho⟩
  exact HandSPX.exc_get I1.kIn J T.ga T.gg T.exC (PySem.W.findObj_own T.hdC hno rfl (by rw [hl, hw])) (handed_of rw_) ⟨v, H1, I1.tok _, rw_, q⟩
theorem de_xf {cs : List Str} (hc : ∀ c ∈ cs, XfC X.K (He.ga X.K c) ∧ PySem.W.findIn X.K (.ref (He.ga X.K c)) f = some none) (he : DE X G e we) (hb : attributeBase e f X.env (eval e X.env) = eval e X.env := by rfl) : DE X G (.Attribute e f pos) (wXf cs f we) := by
  refine PE.imp (pe_xv he hb) fun σ H Q h => ?_
  obtain ⟨tmp, F, env, fp, Qd, S, h, k⟩ := h
  refine lift1 S h fun r env1 v H1 F1 fp1 e1 S1 r1 h1 => ?_
  split at h1
  · rename_i c fs hp
    obtain ⟨h2, h3⟩ := h1
    obtain ⟨a, oe, gs, rfl, q1, q2, q3, q4, q5⟩ := (Lk.of_pk S1 r1 hp).exc
    split at h3
    · rename_i d hd
      obtain ⟨v, l, dv⟩ := q5.look hd
      rcases q4 with ⟨z, _⟩ | ⟨dd, z1, _, z2⟩
      · rw [z] at l
        cases l
      · exact ⟨a, _, oe, _, dd, gs, v, rfl, q1, q2, q3, z1, z2, l, (hc c h2).1, (hc c h2).2, k (.sh d) _ v _ _ _ e1 S1 dv h3⟩
    · exact h3.elim
  · exact h1.elim
end
end DL
namespace DL
open PySem PySem.Spec PyProof.Rows L2
/-! ### an own slot is shared ahead of time -/
def wFrz (i : Nat) (w : WE) : WE := fun env Q => match env[i]? with
  | some (.ow d) => w (env.set i (.im d)) Q
  | _ => False
def sFrz (i : Nat) (w : WS) : WS := fun env D => match env[i]? with
  | some (.ow d) => w (env.set i (.im d)) D
  | _ => False
section
variable {X : Cx} {G : Gh} {e : Expr} {st : List Stmt} {i : Nat}
theorem SR.frz {K : PySem.W.Frag} {tmp : List (Addr × HO)} {F : Addr → Prop} {σ : St} {H : Hp} {env : EnvD} {fp : Nat → List Addr} {d : D} (S : SR K G tmp F σ H env fp) (hi : env[i]? = some (.ow d)) : ∃ F' fp', SR K G tmp F' σ H (env.set i (.im d)) fp' ∧ Ext F H F' H := by
  obtain ⟨o, h1, a, _, rfl, _⟩ := S.sl i _ hi
  obtain ⟨F1, fp1, S1, e1, _⟩ := S.freeze hi (show RV K G tmp F σ H env fp (.ref a) (.br i) from h1)
  exact ⟨F1, fp1, S1, e1⟩
theorem de_frz {w : WE} (i : Nat) (h : DE X G e w) : DE X G e (wFrz i w) := by
  refine PE.imp h fun σ H Q z => ?_
  obtain ⟨tmp, F, env, fp, Qd, S, z, k⟩ := z
  unfold wFrz at z
  split at z
  · rename_i d hi
    obtain ⟨F1, fp1, S1, e1⟩ := S.frz hi
    exact ⟨tmp, F1, _, fp1, Qd, S1, z, fun r env' v H' F' fp' e' S' r' q => k r env' v H' F' fp' (e1.trans e') S' r' q⟩
  · exact z.elim
theorem ds_frz {w : WS} (i : Nat) (h : DSs X G st w) : DSs X G st (sFrz i w) := by
  refine PSs.imp h fun D σ H z => ?_
  obtain ⟨tmp, F, env, fp, Dd, S, z, k⟩ := z
  unfold sFrz at z
  split at z
  · rename_i d hi
    obtain ⟨F1, fp1, S1, e1⟩ := S.frz hi
    exact ⟨tmp, F1, _, fp1, Dd, S1, z, k.later e1⟩
  · exact z.elim
end
end DL
namespace DL
open PySem PySem.Spec PyProof.Rows L2
/-! ### the state of a law's draws: its two numbers -/
/-- the name of the number: turn or rest -/
def stK (turn : Bool) : Str := if turn = true then "turn" else "rest"
/-- state['rest'], state['turn'] -/
def wStI (i : Nat) (turn : Bool) : WE := fun env Q => ∃ n, env[i]? = some (.st n) ∧ ∀ r : Int, 0 ≤ r → (turn = true → r + n ≤ 1000000000) → Q (.sh (.int r)) env
/-- state['rest'] = v, state['turn'] = v -/
def sStP (i : Nat) (turn : Bool) (we : WE) : WS := fun env D => we env fun r env1 => ∃ n x n1 : _, env1[i]? = some (.st n) ∧ r = .sh (.int x) ∧ 0 ≤ x ∧ n1 ≤ n ∧ (turn = true → x + (n1 : Nat) ≤ 1000000000) ∧ D.nx (env1.set i (.st n1))
section
variable {K : PySem.W.Frag} {G : Gh} {tmp : List (Addr × HO)} {F : Addr → Prop} {σ : St} {H : Hp} {env : EnvD} {fp : Nat → List Addr} {i n : Nat}
theorem SR.st (S : SR K G tmp F σ H env fp) (hi : env[i]? = some (.st n)) : ∃ p g c, fp i = [p, g] ∧ σ[i]? = some (some (.ref p)) ∧ F c ∧ StAt H p g c n := by
  obtain ⟨o, h1, p, g, c, h2, rfl, h3⟩ := S.sl i _ hi
  exact ⟨p, g, c, h2, h1, h3⟩
/-- one of the two numbers is written -/
theorem SR.stPut (S : SR K G tmp F σ H env fp) (hi : env[i]? = some (.st n)) {p g c : Addr} (hp : fp i = [p, g]) (fc : F c) {gs cs : List Int} {r t r1 t1 : Int} {n1 : Nat}
    (hH : H p = some (.dK [(.inr "great", .ref g), (.inr "cells", .ref c), (.inr "rest", .int r), (.inr "turn", .int t)])) (hg : H g = some (.lst (gs.map V.int))) (hc : H c = some (.lst (cs.map V.int))) (gc : g ≠ c) (g0 : ∀ x ∈ gs, 0 ≤ x) (c0 : ∀ x ∈ cs, 0 ≤ x)
    (hr : 0 ≤ r1) (ht : 0 ≤ t1) (hn : t1 + n1 ≤ 1000000000) : ∃ fp1, SR K G tmp F σ (upd H p (.dK [(.inr "great", .ref g), (.inr "cells", .ref c), (.inr "rest", .int r1), (.inr "turn", .int t1)])) (env.set i (.st n1)) fp1 ∧
      Ext F H F (upd H p (.dK [(.inr "great", .ref g), (.inr "cells", .ref c), (.inr "rest", .int r1), (.inr "turn", .int t1)])) := by
  have hlt : i < env.length := (List.getElem?_eq_some_iff.mp hi).1
  have pin : p ∈ fp i := by rw [hp]; exact List.mem_cons_self
  have np : ¬ F p := S.nf i p pin
  obtain ⟨_, _, _, q1, q2, _⟩ := S.st hi
  have sp : σ[i]? = some (some (.ref p)) := by
    rw [hp] at q1
    cases q1
    exact q2
  have gp : g ≠ p := fun e => by rw [e, hH] at hg; cases hg
  have cp : c ≠ p := fun e => by rw [e, hH] at hc; cases hc
  have ch : Ch F (fun a => a ∈ fp i) H (upd H p (.dK [(.inr "great", .ref g), (.inr "cells", .ref c), (.inr "rest", .int r1), (.inr "turn", .int t1)])) := by
    refine ⟨fun a o h _ hw => ?_, fun a f => ?_, fun a o h => ?_⟩
    · rw [upd_ne (fun e => hw (by rw [e]; exact pin))]
      exact h
    · rw [upd_ne (fun e => np (by rw [← e]; exact f))]
      exact Kp.refl
    · by_cases e : a = p
      · rw [e]
        exact ⟨_, upd_same⟩
      · rw [upd_ne e]
        exact ⟨o, h⟩
  have S1 := S.put hlt (s' := .st n1) (o := some (.ref p)) (l := [p, g]) ch ⟨p, g, c, rfl, rfl, fc, gs, cs, r1, t1, upd_same, by rw [upd_ne gp]; exact hg, by rw [upd_ne cp]; exact hc, gc, hr, ht, hn, g0, c0⟩
    (fun a ha => .inl (by rw [hp]; exact ha)) (fun d e => nomatch e) (fun _ l => by rw [← sp]; exact S.par i _ hi rfl l) fun j a hj ha => upd_ne fun e => hj (S.dj j i a ha (by rw [e]; exact pin))
  have es : σ.set i (some (.ref p)) = σ := by
    have l2 : i < σ.length := (List.getElem?_eq_some_iff.mp sp).1
    have e : σ[i] = some (.ref p) := (List.getElem?_eq_some_iff.mp sp).2
    rw [← e, List.set_getElem_self]
  rw [es] at S1
  exact ⟨_, S1, fun a f => ⟨f, ch.f a f⟩⟩
end
section
variable {X : Cx} {G : Gh} {o ke value : Expr} {i : Nat} {pos pos' : Pos} {we : WE} {turn : Bool}
theorem de_stI (hu : X.A.units + 64 < cLine) (ho : PE X o (tVar i)) (hk : PE X ke (tC (.str (stK turn)))) (hs : NoSl ke) : DE X G (.Subscript o ke pos) (wStI i turn) := by
  refine PE.imp (pe_dget (by omega) ho hk hs) fun σ H Q h => ?_
  obtain ⟨tmp, F, env, fp, Qd, S, ⟨n, hi, h⟩, k⟩ := h
  obtain ⟨p, g, c, hp, hσ, fc, gs, cs, r, t, q1, q2, q3, gc, r0, t0, tn, g0, c0⟩ := S.st hi
  refine ⟨.ref p, hσ, p, .int (if turn = true then t else r), rfl, ?_, k (.sh (.int (if turn = true then t else r))) _ _ _ _ _ Ext.refl S Dat.int (h _ (by split <;> assumption) fun e => by rw [if_pos e]; exact tn)⟩
  have d := DGet.k (k := .inr (stK turn)) q1
  have e : valV ([(.inr "great", .ref g), (.inr "cells", .ref c), (.inr "rest", .int r), (.inr "turn", .int t)] : List (Key × V)) (.inr (stK turn)) = some (.int (if turn = true then t else r)) := by
    clear h
    cases turn <;> rfl
  rw [e] at d
  exact d
theorem ds_stP (hu : X.A.units + 64 < cLine) (hv : DE X G value we) (ho : PE X o (tVar i)) (hk : PE X ke (tC (.str (stK turn)))) (hs : swapsWith value (some (.Subscript o ke pos')) pos.line X.env = pure false) : DS X G (.Assign [.Subscript o ke pos'] value pos) (sStP i turn we) := by
  refine PS.imp (ps_dput (by omega) ho hk hv hs) fun D σ H h => ?_
  obtain ⟨tmp, F, env, fp, Dd, S, h, k⟩ := h
  refine lift1 S h fun ra env1 v H1 F1 fp1 e1 S1 r1 h1 => ?_
  obtain ⟨n, x, n1, hi, rfl, x0, nn, tn1, h1⟩ := h1
  cases (show Dat X.K F1 H1 (.int x) v from r1)
  obtain ⟨p, g, c, hp, hσ, fc, gs, cs, r, t, q1, q2, q3, gc, r0, t0, tn, g0, c0⟩ := S1.st hi
  have nn1 : (n1 : Int) ≤ n := by omega
  refine ⟨.ref p, hσ, p, upd H1 p (.dK [(.inr "great", .ref g), (.inr "cells", .ref c), (.inr "rest", .int (if turn = true then r else x)), (.inr "turn", .int (if turn = true then x else t))]), rfl, ?_, ?_⟩
  · have d := DPut.k (k := .inr (stK turn)) (v := .int x) q1 (by rw [sizeLine_eq]; simp)
    have e : putK ([(.inr "great", .ref g), (.inr "cells", .ref c), (.inr "rest", .int r), (.inr "turn", .int t)] : List (Key × V)) (.inr (stK turn)) (.int x) = [(.inr "great", .ref g), (.inr "cells", .ref c), (.inr "rest", .int (if turn = true then r else x)), (.inr "turn", .int (if turn = true then x else t))] := by
      clear hk hs ho d tn1
      cases turn <;> rfl
    rw [e] at d
    exact d
  · obtain ⟨fp2, S2, e2⟩ := S1.stPut (n1 := n1) (r1 := if turn = true then r else x) (t1 := if turn = true then x else t) hi hp fc q1 q2 q3 gc g0 c0 (by split <;> assumption) (by split <;> assumption) (by
      split
      · rename_i e
        exact tn1 e
      · omega)
    exact k.nx _ _ _ _ _ (e1.trans e2) S2 h1
end
end DL
namespace DL
open PySem PySem.Spec PyProof.Rows L2
/-! ### the state of a law's draws: the great cells -/
section
variable {X : Cx} {G : Gh} {o ke e : Expr} {i : Nat} {pos pos' : Pos} {we : WE}
/-- state['great'] or state['cells'] by its address -/
theorem pe_stL {k : Str} {tmp : List (Addr × HO)} {F : Addr → Prop} {env : EnvD} {fp : Nat → List Addr} (hu : X.A.units + 64 < cLine) (ho : PE X o (tVar i)) (hk : PE X ke (tC (.str k))) (hs : NoSl ke) : PE X (.Subscript o ke pos) (fun σ H Q => ∃ p kvs v, σ[i]? = some (some (.ref p)) ∧ H p = some (.dK kvs) ∧ valV kvs (.inr k) = some v ∧ Q v H) := by
  refine PE.imp (pe_dget (by omega) ho hk hs) fun σ H Q h => ?_
  obtain ⟨p, kvs, v, h1, h2, h3, q⟩ := h
  refine ⟨.ref p, h1, p, v, rfl, ?_, q⟩
  have d := DGet.k (k := .inr k) h2
  rw [h3] at d
  exact d
/-- state['great'] != [] -/
def tGr (K : PySem.W.Frag) (G : Gh) (i : Nat) : TE := fun σ H Q => ∃ tmp F env fp n, SR K G tmp F σ H env fp ∧ env[i]? = some (.st n) ∧
  ∀ H1 F1 fp1 g gs, Ext F H F1 H1 → SR K G tmp F1 σ H1 env fp1 → (∃ p c kvs, fp1 i = [p, g] ∧ F1 c ∧ H1 p = some (.dK kvs) ∧ valV kvs (.inr "great") = some (.ref g)) → H1 g = some (.lst (gs.map V.int)) → (∀ x ∈ gs, 0 ≤ x) → Q (.bl (!decide (gs = []))) H1
theorem pc_great {lp : Pos} {k0 : Nat} (hx : Passes (L2.CX X.prog X.w) X E0) (hr : Room (1 + k0) X.A) (ho : PE X o (tVar i)) (hk : PE X ke (tC (.str "great"))) (hs : NoSl ke) : PC X .NotEq (.Subscript o ke pos) (.List [] lp) (tGr X.K G i) := by
  have hu : X.A.units + 64 < cLine := hr.units
  refine ⟨fun pins s σ H Q I h => ?_⟩
  obtain ⟨tmp, F, env, fp, n, S, hi, q⟩ := h
  obtain ⟨p, g, c, hp, hσ, fc, gs, cs, r, t, q1, q2, q3, gc, r0, t0, tn, g0, c0⟩ := S.st hi
  have gin : g ∈ fp i := by rw [hp]; simp
  refine thn ((pe_stL (pos := pos) (tmp := tmp) (F := F) (env := env) (fp := fp) hu ho hk hs).run pins s σ H (fun v H1 => v = .ref g ∧ H1 = H) I ⟨p, _, .ref g, hσ, q1, rfl, rfl, rfl⟩) fun u s1 ⟨x, H1, I1, rx, ex, eH⟩ => ?_
  subst ex eH
  refine thn ((pe_lst (pos := lp) pa_nil).run pins s1 σ H1 (fun v H2 => ∃ z, v = .ref z ∧ H1 z = none ∧ H2 = upd H1 z (.lst [])) I1 ⟨by rw [sizeLine_eq]; simp, fun z hz => ⟨z, rfl, hz, rfl⟩⟩) fun w s2 ⟨y, H2, I2, ry, z, ey, hz, eH⟩ => ?_
  subst ey eH
  have S2 := S.alloc (o := .lst []) hz
  have gz : g ≠ z := fun e => by rw [e, hz] at q2; cases q2
  have pz : p ≠ z := fun e => by rw [e, hz] at q1; cases q1
  have cz : c ≠ z := fun e => by rw [e, hz] at q3; cases q3
  have numsD : ∀ (l : List Int) (F : Addr → Prop) (H : Hp), Dats X.K F H (l.map D.int) (l.map V.int) := fun l F H => by
    induction l with
    | nil => exact .nil
    | cons a l ih => exact .cons .int ih
  have l1 : LkE X.K F (upd H1 z (.lst [])) (.lst (gs.map D.int)) (.ref g) := .inr ⟨g, rfl, ⟨gs.map V.int, by rw [upd_ne gz]; exact q2, numsD _ _ _⟩, fun _ _ e => (nomatch e), S.nf i g gin⟩
  have l2 : LkE X.K F (upd H1 z (.lst [])) (.lst []) (.ref z) := .inr ⟨z, rfl, ⟨[], upd_same, .nil⟩, fun _ _ e => (nomatch e), S.newF hz⟩
  have eq : EqN own0 1 (.lst (gs.map D.int)) (.lst []) (decide (gs = [])) := by
    refine .inr (.inl ⟨_, _, rfl, rfl, ?_⟩)
    cases gs with
    | nil => exact .nil
    | cons a l => exact .r
  refine wpAny_mono (rc_topNotEq hx 1 own0_all _ _ _ _ _ _ _ _ _ _ _ _ _ _ _ hr I2 S2 l1 l2 (fun z => by cases z) rx ry eq ⟨fun v w z _ => (by cases z), fun kvs z => (by cases z)⟩) (fun r1 s3 z1 => ?_) fun _ _ z => z
  obtain ⟨rfl, H3, F3, fp3, I3, e3, st, _, S3⟩ := z1
  have nF : ∀ {a : Addr}, a ∈ fp i → ¬ F a := fun h => S.nf i _ h
  have kp : H3 p = some (.dK [(.inr "great", .ref g), (.inr "cells", .ref c), (.inr "rest", .int r), (.inr "turn", .int t)]) := st p _ (by rw [upd_ne pz]; exact q1) (nF (by rw [hp]; simp))
  have kg : H3 g = some (.lst (gs.map V.int)) := st g _ (by rw [upd_ne gz]; exact q2) (nF gin)
  refine ⟨.bl (!decide (gs = [])), H3, I3, rfl, q H3 F3 fp3 g gs ((Ext.upd (S.newF hz)).trans e3) S3 ?_ kg g0⟩
  obtain ⟨p3, g3, c3, h3, h4, f3, gs3, cs3, r3, t3, w1, _⟩ := S3.st hi
  rw [hσ] at h4
  cases h4
  rw [kp] at w1
  cases w1
  exact ⟨p, c, _, h3, f3, kp, rfl⟩
end
end DL
namespace DL
open PySem PySem.Spec PyProof.Rows L2
section
variable {K : PySem.W.Frag} {G : Gh} {tmp : List (Addr × HO)} {F : Addr → Prop} {σ : St} {H : Hp} {env : EnvD} {fp : Nat → List Addr} {i n : Nat}
/-- a great cell is taken -/
theorem SR.stPop (S : SR K G tmp F σ H env fp) (hi : env[i]? = some (.st n)) {p g c : Addr} (hp : fp i = [p, g]) (fc : F c) {gs hs cs : List Int} {r t : Int}
    (hH : H p = some (.dK [(.inr "great", .ref g), (.inr "cells", .ref c), (.inr "rest", .int r), (.inr "turn", .int t)])) (hg : H g = some (.lst (gs.map V.int))) (hc : H c = some (.lst (cs.map V.int))) (gc : g ≠ c) (g0 : ∀ x ∈ hs, 0 ≤ x) (c0 : ∀ x ∈ cs, 0 ≤ x)
    (hr : 0 ≤ r) (ht : 0 ≤ t) (hn : t + n ≤ 1000000000) : ∃ fp1, SR K G tmp F σ (upd H g (.lst (hs.map V.int))) env fp1 ∧ Ext F H F (upd H g (.lst (hs.map V.int))) := by
  have hlt : i < env.length := (List.getElem?_eq_some_iff.mp hi).1
  have gin : g ∈ fp i := by rw [hp]; simp
  have ng : ¬ F g := S.nf i g gin
  obtain ⟨_, _, _, q1, q2, _⟩ := S.st hi
  have sp : σ[i]? = some (some (.ref p)) := by
    rw [hp] at q1
    cases q1
    exact q2
  have pg : p ≠ g := fun e => by rw [e, hg] at hH; cases hH
  have ch : Ch F (fun a => a ∈ fp i) H (upd H g (.lst (hs.map V.int))) := by
    refine ⟨fun a o h _ hw => ?_, fun a f => ?_, fun a o h => ?_⟩
    · rw [upd_ne (fun e => hw (by rw [e]; exact gin))]
      exact h
    · rw [upd_ne (fun e => ng (by rw [← e]; exact f))]
      exact Kp.refl
    · by_cases e : a = g
      · rw [e]
        exact ⟨_, upd_same⟩
      · rw [upd_ne e]
        exact ⟨o, h⟩
  have S1 := S.put hlt (s' := .st n) (o := some (.ref p)) (l := [p, g]) ch ⟨p, g, c, rfl, rfl, fc, hs, cs, r, t, by rw [upd_ne pg]; exact hH, upd_same, by rw [upd_ne gc.symm]; exact hc, gc, hr, ht, hn, g0, c0⟩
    (fun a ha => .inl (by rw [hp]; exact ha)) (fun d e => nomatch e) (fun _ l => by rw [← sp]; exact S.par i _ hi rfl l) fun j a hj ha => upd_ne fun e => hj (S.dj j i a ha (by rw [e]; exact gin))
  have es : σ.set i (some (.ref p)) = σ := by
    have l2 : i < σ.length := (List.getElem?_eq_some_iff.mp sp).1
    have e : σ[i] = some (.ref p) := (List.getElem?_eq_some_iff.mp sp).2
    rw [← e, List.set_getElem_self]
  have ee : env.set i (.st n) = env := by
    have e : env[i] = .st n := (List.getElem?_eq_some_iff.mp hi).2
    rw [← e, List.set_getElem_self]
  rw [es, ee] at S1
  exact ⟨_, S1, fun a f => ⟨f, ch.f a f⟩⟩
end
/-- state['great'].pop(0) if state['great'] != [] else e -/
def wGreat (i : Nat) (we : WE) : WE := fun env Q => (∃ n, env[i]? = some (.st n)) ∧ (∀ x : Int, 0 ≤ x → Q (.sh (.int x)) env) ∧ we env Q
section
variable {X : Cx} {G : Gh} {ts ps e : Expr} {i : Nat} {pos p2 : Pos} {we : WE} {z : Expr}
theorem de_great {c d : Expr} (ht : PC X .NotEq c d (tGr X.K G i)) (hm : behindInMarks .NotEq d = false)
    (hpop : PE X ps (tBM X.K "list" rPopAt (fun σ H Q => ∃ p kvs v, σ[i]? = some (some (.ref p)) ∧ H p = some (.dK kvs) ∧ valV kvs (.inr "great") = some v ∧ Q v H) (tCons (tC (.int 0)) tNil))) (he : DE X G e we) : DE X G (.IfExp (.Compare c [.NotEq] [d] p2) ps e pos) (wGreat i we) := by
  refine PE.imp (pe_ifExp (pt_cmp ht hm) hpop he) fun σ H Q h => ?_
  obtain ⟨tmp, F, env, fp, Qd, S, ⟨⟨n, hi⟩, h1, h2⟩, k⟩ := h
  refine ⟨tmp, F, env, fp, n, S, hi, fun H1 F1 fp1 g gs e1 S1 hfp hg g0 => ⟨!decide (gs = []), rfl, ?_⟩⟩
  cases gs with
  | nil => exact ⟨tmp, F1, env, fp1, Qd, S1, h2, fun r env' v H' F' fp' e' S' r' q => k r env' v H' F' fp' (e1.trans e') S' r' q⟩
  | cons x xs =>
    obtain ⟨p, g', c, hp, hσ, fc, gs', cs, r, t, q1, q2, q3, gc, r0, t0, tn, _, c0⟩ := S1.st hi
    obtain ⟨p', c', kvs, hfp, _, _, _⟩ := hfp
    rw [hfp] at hp
    cases hp
    refine ⟨p, _, .ref g, hσ, q1, rfl, ⟨?_, ?_⟩⟩
    · exact .inl ⟨rfl, _, SqL.of hg⟩
    · refine ⟨g, (x :: xs).map V.int, 0, 0, .int x, rfl, rfl, hg, by decide, by decide, by simp [seqIndex?], rfl, ?_⟩
      obtain ⟨fp2, S2, e2⟩ := S1.stPop (hs := xs) hi hfp fc q1 hg q3 gc (fun y hy => g0 y (List.mem_cons_of_mem _ hy)) c0 r0 t0 tn
      exact k (.sh (.int x)) env _ _ F1 fp2 (e1.trans e2) S2 Dat.int (h1 x (g0 x List.mem_cons_self))
end
end DL
namespace DL
open PySem PySem.Spec PyProof.Rows L2
/-! ### the state of a law's draws: its cells -/
/-- state['cells'] -/
def wStC (i : Nat) : WE := fun env Q => (∃ n, env[i]? = some (.st n)) ∧ ∀ cs : List Int, (∀ x ∈ cs, 0 ≤ x) → Q (.sh (.lst (cs.map D.int))) env
theorem dats_nums {K : PySem.W.Frag} {F : Addr → Prop} {H : Hp} : ∀ l : List Int, Dats K F H (l.map D.int) (l.map V.int)
  | [] => .nil
  | _ :: l => .cons .int (dats_nums l)
theorem de_stC {X : Cx} {G : Gh} {o ke : Expr} {i : Nat} {pos : Pos} (hu : X.A.units + 64 < cLine) (ho : PE X o (tVar i)) (hk : PE X ke (tC (.str "cells"))) (hs : NoSl ke) : DE X G (.Subscript o ke pos) (wStC i) := by
  refine PE.imp (pe_stL (tmp := []) (F := fun _ => False) (env := []) (fp := fun _ => []) hu ho hk hs) fun σ H Q h => ?_
  obtain ⟨tmp, F, env, fp, Qd, S, ⟨⟨n, hi⟩, h⟩, k⟩ := h
  obtain ⟨p, g, c, hp, hσ, fc, gs, cs, r, t, q1, q2, q3, gc, r0, t0, tn, g0, c0⟩ := S.st hi
  exact ⟨p, _, .ref c, hσ, q1, rfl, k (.sh (.lst (cs.map D.int))) env _ H F fp Ext.refl S (Dat.lst fc q3 (dats_nums cs)) (h cs c0)⟩
end DL
namespace DL
open PySem PySem.Spec PyProof.Rows L2
/-! ### dict comprehensions with several clauses -/
/-- one turn of a clause's loop, by what is run where the tests hold -/
def turnB (t i : Expr) (ifs : List Expr) (it : Value) (env : Env) (bd : PySem.Sem Fin → PySem.Sem Fin) (nxt : PySem.Sem Fin) : PySem.Sem Fin := do
  standAt i.pos
  match ← pyNext it with
  | none => pure (.done .next)
  | some v =>
    letOwnedTupleGo t it v
    assign t env v
    let mut ok := true
    for c in ifs do
      if ok then ok ← isTrue c env (eval c env)
    if ok then bd nxt else nxt
def midB (e : Expr) (d : Nat) (i1 : Expr) (acc : Value) (env : Env) (nxt : PySem.Sem Fin) : PySem.Sem Fin := do
  let x ← eval i1 env
  standAt i1.pos
  let x ← foldedSetIterable i1 env x
  let _ ← runOwn (.compStart e (d + 1) (← holding [x] (pyIter x)) acc env) env
  nxt
def lastB (k v : Expr) (acc : Value) (env : Env) : PySem.Sem Unit := do
  let kv ← eval k env
  let vv ← holding [kv] (eval v env)
  match acc with
  | .ref d => do
    standAt { k.pos with endLine := v.pos.endLine, endCol := v.pos.endCol }
    holding [kv, vv] (dictSet d kv vv)
  | _ => unsupported "internal:dictcomp"
section
variable {kx vx t i t1 i1 : Expr} {ifs ifs1 : List Expr} {gs : List Comprehension} {scope : Scope} {pos : Pos} {it acc : Value} {env : Env} {d : Nat}
theorem turn_mid (h : gs[d]? = some ⟨t, i, ifs, 0⟩) (h1 : gs[d + 1]? = some ⟨t1, i1, ifs1, 0⟩) :
    compTurn (.DictComp kx vx gs scope pos) d it acc env = turnB t i ifs it env (midB (.DictComp kx vx gs scope pos) d i1 acc env) (again (.compLoop (.DictComp kx vx gs scope pos) d it acc env)) := by
  unfold compTurn
  simp only [h, h1]
  rfl
theorem turn_last (h : gs[d]? = some ⟨t, i, ifs, 0⟩) (h1 : gs[d + 1]? = none) :
    compTurn (.DictComp kx vx gs scope pos) d it acc env = turnB t i ifs it env (fun k => lastB kx vx acc env >>= fun _ => k) (again (.compLoop (.DictComp kx vx gs scope pos) d it acc env)) := by
  unfold compTurn
  simp only [h, h1]
  rfl
variable {prog : Program} {w : World} {A : Around} {R : Result → Shared → Prop} {s : Shared}
/-- any clause's loop -/
theorem loopB {bd : PySem.Sem Fin → PySem.Sem Fin} (hT : compTurn (.DictComp kx vx gs scope pos) d it acc env = turnB t i ifs it env bd (again (.compLoop (.DictComp kx vx gs scope pos) d it acc env))) (I : Nat → Shared → Prop)
    (turn : ∀ n s, I n s → wpAny (model prog w) A (pyNext it) (fun r s₁ => match r with
      | none => R (.ok .next) s₁
      | some v => wpAny (model prog w) A (letOwnedTupleGo t it v) (fun _ s₂ => wpAny (model prog w) A (assign t env v) (fun _ s₃ =>
          wpAny (model prog w) A (forIn ifs true fun c r => if r = true then do let ok ← isTrue c env (eval c env); pure (ForInStep.yield ok) else pure (ForInStep.yield r)) (fun ok s₄ =>
            if ok = true then (∀ nx : Fin, wpAny (model prog w) A (bd (pure nx)) (fun r s₅ => r = nx ∧ ∃ m, m < n ∧ I m s₅) (fun _ _ => False) s₄)
            else ∃ m, m < n ∧ I m s₄) (fun _ _ => False) s₃) (fun _ _ => False) s₂) (fun _ _ => False) s₁) (fun _ _ => False) s)
    (n : Nat) (h : I n s) : codeAny (model prog w) A (.compLoop (.DictComp kx vx gs scope pos) d it acc env) R s := by
  refine codeAny_loop rfl I (fun n s hI => ?_) n h
  show wpAny _ A ((compTurn (.DictComp kx vx gs scope pos) d it acc env).onRaise (fun x => do noteFrame x env; theTreesLotGoes x)) _ _ s
  refine wpAny_noted ?_
  rw [hT]
  unfold turnB
  refine wpAny_bind (wpAny_standAt (wpAny_bind (wpAny_mono (turn n s hI) (fun r s₁ h₁ => ?_) fun _ _ z => z.elim)))
  cases r with
  | none => exact wpAny_pure h₁
  | some v =>
    refine wpAny_bind (wpAny_mono h₁ (fun _ s₂ h₂ => ?_) fun _ _ z => z.elim)
    refine wpAny_bind (wpAny_mono h₂ (fun _ s₃ h₃ => wpAny_bind (wpAny_mono h₃ (fun ok s₄ h₄ => ?_) fun _ _ z => z.elim)) fun _ _ z => z.elim)
    cases ok with
    | false => exact wpAny_pure ⟨rfl, h₄⟩
    | true => exact wpAny_mono (h₄ (.again (.compLoop (.DictComp kx vx gs scope pos) d it acc env))) (fun r s₅ h₅ => by obtain ⟨rfl, h₅⟩ := h₅; exact ⟨rfl, h₅⟩) fun _ _ z => z.elim
/-- a later clause's start -/
theorem startB (hc : gs[d]? = some ⟨t, i, ifs, 0⟩) (h0 : codeAny (model prog w) A (.compLoop (.DictComp kx vx gs scope pos) d it acc env) R s)
    (h : wpAny (model prog w) A (pyIter it) (fun it' s' => codeAny (model prog w) A (.compLoop (.DictComp kx vx gs scope pos) d it' acc env) R s') (fun _ _ => False) s) :
    codeAny (model prog w) A (.compStart (.DictComp kx vx gs scope pos) d it acc env) R s := by
  refine codeAny_of_tree ?_
  show wpAny _ A ((compStart (.DictComp kx vx gs scope pos) d it acc env).onRaise (fun x => do noteFrame x env; standAt theWindowsPlace)) _ _ s
  refine wpAny_notedAt ?_
  unfold compStart
  simp only [clausesOf, hc]
  show wpAny _ A (ask >>= _) _ _ s
  refine wpAny_bind (wpAny_askSetting (wpAny_ite ?_))
  split
  · first
      | exact wpAny_bind (wpAny_pure (wpAny_pure (And.intro rfl h0)))
      | exact wpAny_pure (And.intro rfl h0)
  · first
      | exact wpAny_bind (wpAny_rule (wpAny_bind (wpAny_standAt (wpAny_bind (wpAny_mono h (fun it' s' h' => wpAny_pure (And.intro rfl h')) fun _ _ x => x.elim)))))
      | (refine wpAny_bind (wpAny_rule ?_); show wpAny _ _ (standAt i.pos >>= _) _ _ s; exact wpAny_bind (wpAny_standAt (wpAny_bind (wpAny_mono h (fun it' s' h' => wpAny_pure (And.intro rfl h')) fun _ _ x => x.elim))))
end
end DL
namespace DL
open PySem PySem.Spec PyProof.Rows L2
/-! ### what a clause's body does -/
abbrev TB := St → Hp → (Hp → Prop) → Prop
structure NB (X : Cx) (bd : PySem.Sem Fin → PySem.Sem Fin) (ws : List Nat) (tb : TB) : Prop where
  run : ∀ (pins : List (Addr × Obj)) (s : Shared) (σ : St) (H : Hp) (Q : Hp → Prop), Inv X pins σ H s → tb σ H Q → ∀ nx : Fin, wpAny (model X.prog X.w) X.A (bd (pure nx)) (fun r s' => r = nx ∧ ∃ H', Inv X pins (wipe σ ws) H' s' ∧ Q H') (fun _ _ => False) s
theorem NB.imp {X : Cx} {bd : PySem.Sem Fin → PySem.Sem Fin} {ws : List Nat} {tb tb' : TB} (h : NB X bd ws tb) (i : ∀ σ H Q, tb' σ H Q → tb σ H Q) : NB X bd ws tb' := ⟨fun pins s σ H Q I q => h.run pins s σ H Q I (i σ H Q q)⟩
def tLoop (J : It) (g : TG) (tt : TT) (tb : TB) (ws : List Nat) : TB := fun σ H Q => ∃ W : Nat → Nat → Hp → Prop, (∃ m, W 0 m H) ∧ ∀ i m H, W i m H →
  (J.stop i H ∧ Q H) ∨ (J.go i H ∧ ∃ Nx : Hp → Prop, (∀ H', Nx H' → ∃ m', m' < m ∧ W (i + 1) m' H') ∧ ∀ x H', J.yld i H x H' → g x (wipe σ ws) H' fun σ2 H2 => wipe σ2 ws = wipe σ ws ∧ tt σ2 H2 fun b H3 => if b = true then tb σ2 H3 Nx else Nx H3)
def tbMid (wi : TI) (g : TG) (tt : TT) (tb : TB) (ws : List Nat) : TB := fun σ H Q => wi σ H fun J H1 => tLoop J g tt tb ws σ H1 Q
def tbLast (tk tv : TE) (D : Addr) : TB := fun σ H Q => tk σ H fun y H4 => tv σ H4 fun z H5 => ∃ kvs k, y = kV k ∧ H5 D = some (.dK kvs) ∧ kvs.length < sizeLine ∧ Q (upd H5 D (.dK (putK kvs k z)))
theorem wipe_wipe {σ : St} {vs ws : List Nat} (h : ∀ i ∈ vs, i ∈ ws) : wipe (wipe σ vs) ws = wipe σ ws := wipe_eq (wipe_length _ _) fun k hk => wipe_off fun z => hk (h k z)
section
variable {X : Cx} {t i kx vx : Expr} {ifs : List Expr} {d : Nat} {gs : List Comprehension} {scope : Scope} {pos : Pos}
/-- a clause's loop -/
theorem nest_loop {it : Addr} {acc : Value} {bd : PySem.Sem Fin → PySem.Sem Fin} {ws wb : List Nat} {g : TG} {tt : TT} {tb : TB} {pins : List (Addr × Obj)} {s : Shared} {σ : St} {H : Hp} {Q : Hp → Prop} {J : It} {fp : List Addr} {tn : Nat → Heap → Prop}
    (hc : X.calm = true) (hxe : X.xe = fun _ _ => False) (hT : compTurn (.DictComp kx vx gs scope pos) d (.ref it) acc X.env = turnB t i ifs (.ref it) X.env bd (again (.compLoop (.DictComp kx vx gs scope pos) d (.ref it) acc X.env)))
    (pg : PG X t g) (pt : PTs X ifs tt) (pb : NB X bd wb tb) (hw : ∀ i ∈ wb, i ∈ ws) (I : Inv X pins (wipe σ ws) H s) (T : Turn X.prog X.w X.K t J fp it tn) (st : tn 0 s.heap) (f : ∀ b ∈ fp, FpOk X pins H b) (h : tLoop J g tt tb ws σ H Q) :
    codeAny (model X.prog X.w) X.A (.compLoop (.DictComp kx vx gs scope pos) d (.ref it) acc X.env) (fun r s' => match r with
      | .ok _ => ∃ H', Inv X pins (wipe σ ws) H' s' ∧ Q H'
      | .error _ => False) s := by
  obtain ⟨W, ⟨m0, w0⟩, turn⟩ := h
  have stat : ∀ {H' : Hp}, (∀ b ∈ fp, H' b = none) → ∀ b ∈ fp, FpOk X pins H' b := fun hn b hb => ⟨hn b hb, (f b hb).2⟩
  refine loopB hT (fun n s' => ∃ i H', Inv X pins (wipe σ ws) H' s' ∧ tn i s'.heap ∧ (∀ b ∈ fp, H' b = none) ∧ W i n H') ?_ m0 ⟨0, H, I, st, fun b hb => (f b hb).1, w0⟩
  rintro n s5 ⟨j, H5, I5, st5, n5, w5⟩
  rcases turn j n H5 w5 with ⟨stop, qq⟩ | ⟨go, Nx, hNx, step⟩
  · refine thnF (T.done X rfl rfl rfl hc j pins s5 _ H5 (fun _ _ => False) I5 (stat n5) st5 stop) fun r s6 ⟨hr, I6⟩ => ?_
    subst hr
    exact ⟨H5, I6, qq⟩
  · refine thnF (T.item X rfl rfl rfl hc j pins s5 _ H5 (fun _ _ => False) I5 (stat n5) st5 go) fun r s6 ⟨u, hr, h6⟩ => ?_
    subst hr
    refine thnF h6 fun _ s7 ⟨x, H7, I7, r7, y7, st7, n7⟩ => ?_
    have I7' := I7.pinned (stat n7) (T.obj _ _ st7)
    have pg' := pg.run _ s7 _ H7 x u _ I7' r7 (step x H7 y7)
    rw [hxe] at pg'
    refine thnF pg' fun _ s8 ⟨σ8, H8, I8, hw8, q8⟩ => ?_
    have pt' := pt.run _ s8 σ8 H8 _ I8 q8
    rw [hxe] at pt'
    refine thnF pt' fun b s9 ⟨H9, I9, q9⟩ => ?_
    have l8 : (wipe σ ws).length = σ8.length := by rw [← hw8, wipe_length]
    have fin : ∀ {σ9 : St} {s' : Shared} {H' : Hp}, Inv X (pins ++ pinsAt fp s7.heap) σ9 H' s' → σ9.length = σ8.length → (∀ k, k ∉ ws → σ9[k]? = σ8[k]?) → Nx H' →
        ∃ m, m < n ∧ ∃ i H', Inv X pins (wipe σ ws) H' s' ∧ tn i s'.heap ∧ (∀ b ∈ fp, H' b = none) ∧ W i m H' := fun {σ9 s' H'} I' hl hk nx => by
      obtain ⟨m', hm, w'⟩ := hNx H' nx
      have pin' : ∀ b ∈ fp, ∀ o, s7.heap.get? b = some o → s'.heap.get? b = some o ∧ H' b = none := fun b hb o e =>
        let z := I'.pin (b, o) (List.mem_append_right _ (List.mem_append_right _ (mem_pinsAt hb e)))
        ⟨z.1, z.2.1⟩
      refine ⟨m', hm, j + 1, H', I'.unpinned.weak (l8.trans hl.symm) (fun k v e => ?_), T.keep _ _ _ st7 fun b hb o e => (pin' b hb o e).1, fun b hb => ?_, w'⟩
      · rw [← hw8] at e
        obtain ⟨e1, e2⟩ := wipe_some e
        rw [hk k e2]
        exact e1
      · obtain ⟨o, e, _⟩ := T.obj _ _ st7 b hb
        exact (pin' b hb o e).2
    cases b with
    | false =>
      simp only [Bool.false_eq_true, if_false] at q9 ⊢
      exact fin I9 rfl (fun _ _ => rfl) q9
    | true =>
      simp only [if_true] at q9 ⊢
      intro nx
      refine thnF (pb.run _ s9 σ8 H9 _ I9 q9 nx) fun r s10 ⟨er, H10, I10, q10⟩ => ⟨er, ?_⟩
      exact fin I10 (wipe_length _ _) (fun k hk => wipe_off fun z => hk (hw k z)) q10
/-- a clause that stands behind another one -/
theorem nb_mid {t1 i1 : Expr} {ifs1 : List Expr} {acc : Value} {bd : PySem.Sem Fin → PySem.Sem Fin} {ws wb : List Nat} {wi : TI} {g : TG} {tt : TT} {tb : TB} (hc : X.calm = true) (hxe : X.xe = fun _ _ => False)
    (hcl : gs[d + 1]? = some ⟨t1, i1, ifs1, 0⟩) (hT : ∀ it, compTurn (.DictComp kx vx gs scope pos) (d + 1) it acc X.env = turnB t1 i1 ifs1 it X.env bd (again (.compLoop (.DictComp kx vx gs scope pos) (d + 1) it acc X.env)))
    (hs : ∀ x, foldedSetIterable i1 X.env x = pure x) (pi : PI X t1 i1 wi) (pg : PG X t1 g) (pt : PTs X ifs1 tt) (pb : NB X bd wb tb) (hw : ∀ i ∈ wb, i ∈ ws) : NB X (midB (.DictComp kx vx gs scope pos) d i1 acc X.env) ws (tbMid wi g tt tb ws) := by
  refine ⟨fun pins s σ H Q I h nx => ?_⟩
  have p1 := pi.run pins s σ H _ I h
  rw [hxe] at p1
  unfold midB
  refine wpAny_bind (wpAny_mono p1 (fun x s1 h1 => ?_) fun _ _ z => z)
  refine wpAny_bind (wpAny_standAt (wpAny_bind (wpAny_of_eq (hs x) (wpAny_bind (wpAny_holding (wpAny_mono h1 (fun itv s2 h2 => ?_) fun _ _ z => z))))))
  obtain ⟨it, fp, tn, J, H2, rfl, I2, T, st2, f2, q⟩ := h2
  refine wpAny_bind (wpAny_runOwn ?_)
  rw [Around.mark_none]
  have loop := nest_loop hc hxe (hT (.ref it)) pg pt pb hw (I2.weak (wipe_length _ _) fun j v e => (wipe_some e).1) T st2 f2 q
  refine startB hcl ?_ (T.self X.A 0 _ _ _ st2 ?_)
  · refine codeAny_mono loop fun r s' hr => ?_
    cases r with
    | ok fl => exact wpAny_pure ⟨rfl, hr⟩
    | error er => exact hr.elim
  · refine codeAny_mono loop fun r s' hr => ?_
    cases r with
    | ok fl => exact wpAny_pure ⟨rfl, hr⟩
    | error er => exact hr.elim
/-- the innermost body: d[k] = v -/
theorem nb_last {kx vx : Expr} {D : Addr} {tk tv : TE} (hxe : X.xe = fun _ _ => False) (pk : PE X kx tk) (pv : PE X vx tv) : NB X (fun k => lastB kx vx (.ref D) X.env >>= fun _ => k) [] (tbLast tk tv D) := by
  refine ⟨fun pins s σ H Q I h nx => wpAny_bind ?_⟩
  have p1 := pk.run pins s σ H _ I h
  rw [hxe] at p1
  unfold lastB
  refine wpAny_bind (wpAny_mono p1 (fun u s1 ⟨y, H1, I1, r1, q1⟩ => ?_) fun _ _ z => z)
  have p2 := pv.run pins s1 σ H1 _ I1 q1
  rw [hxe] at p2
  refine wpAny_bind (wpAny_holding (wpAny_mono p2 (fun v s2 ⟨z, H2, I2, r2, kvs, k, ek, hD, hz, q2⟩ => ?_) fun _ _ z => z))
  subst ek
  exact wpAny_bind (wpAny_standAt (wpAny_holding (d_dictSet I2 hD hz r1 r2 fun s3 I3 => wpAny_pure ⟨rfl, _, I3, q2⟩)))
end
end DL
namespace DL
open PySem PySem.Spec PyProof.Rows L2
def tDcN (wi : TI) (g : TG) (tt : TT) (tb : Addr → TB) (ws : List Nat) : TE := fun σ H Q => wi σ H fun J H1 => ∀ D, H1 D = none → tLoop J g tt (tb D) ws σ (upd H1 D (.dK [])) fun H' => Q (.ref D) H'
section
variable {X : Cx} {kx vx tg iter : Expr} {ifs : List Expr} {rest : List Comprehension} {scope : Scope} {pos : Pos}
theorem dcN_core {pins : List (Addr × Obj)} {s : Shared} {σ : St} {H : Hp} {Q : VK} {pos' : Pos} {use : Option (Value → PySem.Sem Unit)} {Qf : Value → Shared → Prop} {own : List (Str × Nat)} {wb : List Nat} {wi : TI} {g : TG} {tt : TT} {tb : Addr → TB} {bd : Addr → Env → PySem.Sem Fin → PySem.Sem Fin} (hc : X.calm = true) (hN : X.N.Nodup) (hi : PI X tg iter wi) (ok : BlkOk X.N X.env.scope scope own) (hw : ∀ i ∈ wb, i ∈ own.map (·.2))
    (hT : ∀ it D env, compTurn (.DictComp kx vx (⟨tg, iter, ifs, 0⟩ :: rest) scope pos) 0 it (.ref D) env = turnB tg iter ifs it env (bd D env) (again (.compLoop (.DictComp kx vx (⟨tg, iter, ifs, 0⟩ :: rest) scope pos) 0 it (.ref D) env)))
    (hg : ∀ (s : Shared) (H : Hp) (C : Addr) (cl : List (Str × Addr)) (fp : List Addr), PG (X.blk s H scope (compEnvC scope cl C X.env) fp) tg g) (ht : ∀ (s : Shared) (H : Hp) (C : Addr) (cl : List (Str × Addr)) (fp : List Addr), PTs (X.blk s H scope (compEnvC scope cl C X.env) fp) ifs tt)
    (hb : ∀ (s : Shared) (H : Hp) (C : Addr) (cl : List (Str × Addr)) (fp : List Addr) (D : Addr), NB (X.blk s H scope (compEnvC scope cl C X.env) fp) (bd D (compEnvC scope cl C X.env)) wb (tb D)) (hs : ∀ x, foldedSetIterable iter X.env x = pure x) (I : Inv X pins σ H s) (h : tDcN wi g tt tb (own.map (·.2)) σ H Q)
    (fin : ∀ D C s' m H', Inv X pins σ H' s' → Q (.ref D) H' → s'.heap.Ns C m → FpOk X pins H' C → compPost (model X.prog X.w) X.A X.xe use Qf (.ref D) C (.ok .next) s') :
    wpAny (model X.prog X.w) X.A (comprehension (.DictComp kx vx (⟨tg, iter, ifs, 0⟩ :: rest) scope pos) scope X.env pos' newDict false (eval iter X.env) use) Qf X.xe s := by
  have hfree : ∀ y ∈ scope.names, y.2 = .free → ∃ c, X.env.cells.lookup y.1 = some c := fun y hy e => (ok.free y hy e).elim (fun k => I.ok.has _ (.inl k)) fun k => I.ok.has _ (.inr k)
  refine wpAny_comprehension_free (use := use) rfl hs (closure_ok hfree) ok.kind (fun y hy e => by rw [ok.uniq y hy, e]) (thn (hi.run pins s σ H _ I h) fun xv s1 hx => thn hx fun itv s2 h2 => ?_)
  obtain ⟨it, fp, tn, J, H2, rfl, I2, T, st2, f2, q⟩ := h2
  refine wpAny_newObj_type (newEnv_comp ?_)
  generalize hD : s2.heap.objs.size = D
  have nD : H2 D = none := I2.hok.fresh (Nat.le_of_eq hD)
  have q := q D nD
  generalize hs3 : ({ s2 with heap := s2.heap.push { cls := .type "dict", data := .dict #[] } } : Shared) = s3
  have h3 : s3.heap = s2.heap.push { cls := .type "dict", data := .dict #[] } := by rw [← hs3]
  have I3 : Inv X pins σ (upd H2 D (.dK [])) s3 := by
    rw [← hs3]
    refine I2.laid (t' := s2.toks) (fun b o e => Heap.get?_push_of_some _ e) (Nat.le_of_eq hD) ?_
    rw [← hD]
    exact dk_empty s2.heap I2.big
  have lt3 : ∀ b ∈ fp, b < s2.heap.objs.size := fun b hb => let ⟨o, e, _⟩ := T.obj _ _ st2 b hb; Heap.lt_size e
  have f3 : ∀ b ∈ fp, FpOk X pins (upd H2 D (.dK [])) b ∧ b < s3.heap.objs.size := fun b hb => by
    have lb := lt3 b hb
    refine ⟨⟨?_, (f2 b hb).2⟩, by rw [h3, Heap.size_push]; exact Nat.lt_succ_of_lt lb⟩
    rw [upd_ne (by rw [← hD]; exact Nat.ne_of_lt lb)]
    exact (f2 b hb).1
  have I4 := block_start I3 ok hN f3
  have st4 : tn 0 ({ s3 with heap := pushCells (s3.heap.push { cls := .type "dict", data := .dict #[] }) scope.names } : Shared).heap := T.keep _ _ _ st2 fun b _ o e => by
    show (pushCells (s3.heap.push { cls := .type "dict", data := .dict #[] }) scope.names).get? b = some o
    rw [h3]
    exact pushCells_keeps _ _ _ _ (Heap.get?_push_of_some _ (Heap.get?_push_of_some _ e))
  have f4 : ∀ b ∈ fp, FpOk (X.blk s3 (upd H2 D (.dK [])) scope (compEnvC scope (cellsFrom (s3.heap.objs.size + 1) scope.names (cloFrom X.env.cells scope.names [])) s3.heap.objs.size X.env) fp) [] (upd H2 D (.dK [])) b := fun b hb =>
    ⟨(f3 b hb).1.1, (I4.ok.exf b hb).1, I4.ok.exfs b hb, .inl hb, fun x c e => (I4.ok.exf b hb).2 x c e, fun p hp => absurd (show p ∈ ([] : List (Addr × Obj)) ++ [] from hp) (by simp)⟩
  have loop := nest_loop (X := X.blk s3 (upd H2 D (.dK [])) scope (compEnvC scope (cellsFrom (s3.heap.objs.size + 1) scope.names (cloFrom X.env.cells scope.names [])) s3.heap.objs.size X.env) fp) hc rfl (hT (.ref it) D _)
    (hg s3 (upd H2 D (.dK [])) s3.heap.objs.size (cellsFrom (s3.heap.objs.size + 1) scope.names (cloFrom X.env.cells scope.names [])) fp)
    (ht s3 (upd H2 D (.dK [])) s3.heap.objs.size (cellsFrom (s3.heap.objs.size + 1) scope.names (cloFrom X.env.cells scope.names [])) fp)
    (hb s3 (upd H2 D (.dK [])) s3.heap.objs.size (cellsFrom (s3.heap.objs.size + 1) scope.names (cloFrom X.env.cells scope.names [])) fp D) hw I4 T st4 f4 q
  have out := codeAny_mono (R' := compPost (model X.prog X.w) X.A X.xe use Qf (.ref D) s3.heap.objs.size) loop fun r s6 hr => by
    cases r with
    | error er => exact hr.elim
    | ok fl =>
      obtain ⟨H6, I6, q6⟩ := hr
      have I7 : Inv X pins σ H6 s6 := I3.call' (ch := fp) I6.os I6.base I6.hok I6.bare fun b hb => ⟨(f3 b hb).1.2.2.2.1, (f3 b hb).1.2.1, (f3 b hb).1.2.2.2.2.1, (f3 b hb).1.2.2.2.2.2⟩
      have nC : H6 s3.heap.objs.size = none := I6.free
      obtain ⟨m, hn, _⟩ := I6.loc
      have z := fin D s3.heap.objs.size s6 m H6 I7 q6 hn (I3.fpOk (Nat.le_refl _) nC)
      cases use <;> exact z
  exact codeAny_compStart_dict out (T.self X.A 0 _ _ _ st4 out)
/-- as a value -/
theorem pe_dcN {own : List (Str × Nat)} {wb : List Nat} {wi : TI} {g : TG} {tt : TT} {tb : Addr → TB} {bd : Addr → Env → PySem.Sem Fin → PySem.Sem Fin} (hc : X.calm = true) (hN : X.N.Nodup) (hi : PI X tg iter wi) (ok : BlkOk X.N X.env.scope scope own) (hw : ∀ i ∈ wb, i ∈ own.map (·.2))
    (hT : ∀ it D env, compTurn (.DictComp kx vx (⟨tg, iter, ifs, 0⟩ :: rest) scope pos) 0 it (.ref D) env = turnB tg iter ifs it env (bd D env) (again (.compLoop (.DictComp kx vx (⟨tg, iter, ifs, 0⟩ :: rest) scope pos) 0 it (.ref D) env)))
    (hg : ∀ (s : Shared) (H : Hp) (C : Addr) (cl : List (Str × Addr)) (fp : List Addr), PG (X.blk s H scope (compEnvC scope cl C X.env) fp) tg g) (ht : ∀ (s : Shared) (H : Hp) (C : Addr) (cl : List (Str × Addr)) (fp : List Addr), PTs (X.blk s H scope (compEnvC scope cl C X.env) fp) ifs tt)
    (hb : ∀ (s : Shared) (H : Hp) (C : Addr) (cl : List (Str × Addr)) (fp : List Addr) (D : Addr), NB (X.blk s H scope (compEnvC scope cl C X.env) fp) (bd D (compEnvC scope cl C X.env)) wb (tb D)) (hs : ∀ x, foldedSetIterable iter X.env x = pure x := by intro _; rfl) :
    PE X (.DictComp kx vx (⟨tg, iter, ifs, 0⟩ :: rest) scope pos) (tDcN wi g tt tb (own.map (·.2))) := by
  refine ⟨fun pins s σ H Q I h => ?_⟩
  rw [arm_eval_DictComp]
  refine dcN_core (use := none) hc hN hi ok hw hT hg ht hb hs I h fun D C s' m H' I' q hn f => ?_
  obtain ⟨f0, f1, f2, f3, f4, f5⟩ := f
  exact ⟨m, hn, fun h' sb => ⟨.ref D, H', I'.turned (t' := s'.toks) (fun b o hb e => (sb.2 b hb).trans e) f0 f1 f3 f4 f5, rfl, q⟩⟩
/-- y = {..} on one line, y a local -/
theorem ps_setDcN {k : Nat} {y : Str} {py spos : Pos} {own : List (Str × Nat)} {wb : List Nat} {wi : TI} {g : TG} {tt : TT} {tb : Addr → TB} {bd : Addr → Env → PySem.Sem Fin → PySem.Sem Fin} (hc : X.calm = true) (hN : X.N.Nodup) (hi : PI X tg iter wi) (ok : BlkOk X.N X.env.scope scope own) (hw : ∀ i ∈ wb, i ∈ own.map (·.2))
    (hT : ∀ it D env, compTurn (.DictComp kx vx (⟨tg, iter, ifs, 0⟩ :: rest) scope pos) 0 it (.ref D) env = turnB tg iter ifs it env (bd D env) (again (.compLoop (.DictComp kx vx (⟨tg, iter, ifs, 0⟩ :: rest) scope pos) 0 it (.ref D) env)))
    (hg : ∀ (s : Shared) (H : Hp) (C : Addr) (cl : List (Str × Addr)) (fp : List Addr), PG (X.blk s H scope (compEnvC scope cl C X.env) fp) tg g) (ht : ∀ (s : Shared) (H : Hp) (C : Addr) (cl : List (Str × Addr)) (fp : List Addr), PTs (X.blk s H scope (compEnvC scope cl C X.env) fp) ifs tt)
    (hb : ∀ (s : Shared) (H : Hp) (C : Addr) (cl : List (Str × Addr)) (fp : List Addr) (D : Addr), NB (X.blk s H scope (compEnvC scope cl C X.env) fp) (bd D (compEnvC scope cl C X.env)) wb (tb D)) (hs : ∀ x, foldedSetIterable iter X.env x = pure x) (hy : X.N[k]? = some y) (hyl : X.env.scope.names.lookup y = some .local)
    (hsw : swapsWith (.DictComp kx vx (⟨tg, iter, ifs, 0⟩ :: rest) scope pos) (some (.Name y py)) spos.line X.env = pure true) : PS X (.Assign [.Name y py] (.DictComp kx vx (⟨tg, iter, ifs, 0⟩ :: rest) scope pos) spos) (tAsg (tDcN wi g tt tb (own.map (·.2))) (gName k)) := by
  refine ⟨fun pins s σ H D I h => ?_⟩
  rw [exec_Assign_Name_used _ _ _ _ hsw]
  refine wpAny_bind (wpAny_standAt (wpAny_bind ?_))
  show wpAny _ X.A (do let _ ← comprehension (.DictComp kx vx (⟨tg, iter, ifs, 0⟩ :: rest) scope pos) scope X.env (firstIterPos (⟨tg, iter, ifs, 0⟩ :: rest) pos) newDict false (eval iter X.env) (some (assign (.Name y py) X.env))) _ _ s
  have h : tDcN wi g tt tb (own.map (·.2)) σ H (fun x H1 => gName k x σ H1 D.nx) := h
  refine wpAny_bind (thn (dcN_core (use := some (assign (.Name y py) X.env)) (Qf := fun _ s' => SP X pins D .next s') hc hN hi ok hw hT hg ht hb hs I h fun A C s' m H' I' q hn f => ?_) fun _ s' hq => wpAny_pure (wpAny_pure hq))
  show wpAny _ _ (assign (.Name y py) X.env (.ref A)) _ _ _
  refine wpAny_assign_Name (store_ok2 (v := V.ref A) I' hN hy (.inl hyl) rfl (fun s2 I2 ⟨a, sb, ha⟩ => ?_) (.inr hyl))
  obtain ⟨f0, f1, f2, f3, f4, f5⟩ := f
  have ne : C ≠ a := ha.elim (fun z => by rw [z]; exact f1) fun z e => f4 y a z e.symm
  exact ⟨m, hn.sameBut sb ne, fun h3 sb3 => ⟨_, H', I2.turned (t' := s2.toks) (fun b o hb e => (sb3.2 b hb).trans e) f0 f1 f3 f4 f5, q⟩⟩
end
/-! ### the same over data -/
/-- what a body does with what is gathered so far -/
abbrev WB := D → EnvD → (D → EnvD → Prop) → Prop
def nbGo (wg : WG) (wt : WT) (wb : WB) (vs : List Nat) : List D → D → EnvD → (D → EnvD → Prop) → Prop
  | [], acc, env, Q => Q acc env
  | d :: ds, acc, env, Q => wg d env fun env1 => wt env1 fun b env2 => if b = true then wb acc env2 fun acc' env3 => nbGo wg wt wb vs ds acc' (wipeE env3 vs) Q else nbGo wg wt wb vs ds acc (wipeE env2 vs) Q
def wbMid (wi : WI) (wg : WG) (wt : WT) (wb : WB) (vs : List Nat) : WB := fun acc env Q => wi env fun ds env1 => (∀ v ∈ vs, v < env1.length) ∧ nbGo wg wt wb vs ds acc (wipeE env1 vs) Q
def wbLast (wk wv : WE) : WB := fun acc env Q => wk env fun rk env3 => wv env3 fun rv env4 => fz rv.hold env4 fun x env5 => match acc, (pk env5 rk).bind kD with
  | .dct kvs, some k => kvs.length < sizeLine ∧ Q (.dct (putD kvs k x)) env5
  | _, _ => False
def wDcN (wi : WI) (wg : WG) (wt : WT) (wb : WB) (vs : List Nat) : WE := fun env Q => wi env fun ds env1 => okW env1 vs ∧ nbGo wg wt wb vs ds (.dct []) (wipeE env1 vs) fun acc env2 => env2.length = env1.length ∧ Q (.fr acc) (unw env1 env2 vs)
/-- the body's question: what is gathered stands aside at D -/
def liftB (K : PySem.W.Frag) (G : Gh) (wb : WB) (vs : List Nat) (D : Addr) : TB := fun σ H Q => ∃ tmp F env fp acc o Qd, SR K G ((D, o) :: tmp) F σ H env fp ∧ Own K F H acc D ∧ (∀ q ∈ tmp, q.1 ≠ D) ∧ wb acc env Qd ∧
  ∀ acc' o' env' H' F' fp', Ext F H F' H' → SR K G ((D, o') :: tmp) F' (wipe σ vs) H' env' fp' → Own K F' H' acc' D → Qd acc' env' → Q H'
section
variable {K : PySem.W.Frag} {G : Gh} {wi : WI} {wg : WG} {wt : WT} {wb : WB} {vs ws : List Nat} {Dx : Addr}
theorem Own.aside {tmp tmp' : List (Addr × HO)} {F F' : Addr → Prop} {σ σ' : St} {H H' : Hp} {env env' : EnvD} {fp fp' : Nat → List Addr} {o : HO} {d : D} {A : Addr} (S : SR K G ((A, o) :: tmp) F σ H env fp) (S' : SR K G ((A, o) :: tmp') F' σ' H' env' fp') (e : Ext F H F' H') (w : Own K F H d A) : Own K F' H' d A :=
  w.mono e (((S'.tm (A, o) List.mem_cons_self).1).trans (S.tm (A, o) List.mem_cons_self).1.symm)
/-- a clause's loop over data -/
theorem lift_loop {J : It} {σ : St} {H : Hp} {Q : Hp → Prop} {tmp : List (Addr × HO)} {F : Addr → Prop} {env : EnvD} {fp : Nat → List Addr} {acc : D} {o : HO} {ds : List D} {Qd : D → EnvD → Prop} (S : SR K G ((Dx, o) :: tmp) F σ H env fp) (w : Own K F H acc Dx) (nt : ∀ q ∈ tmp, q.1 ≠ Dx)
    (it : ItD K G J ds F H) (hv : ∀ v ∈ vs, v < env.length) (hw : ∀ i ∈ ws, i ∈ vs) (h : nbGo wg wt wb vs ds acc (wipeE env vs) Qd)
    (k : ∀ acc' o' env' H' F' fp', Ext F H F' H' → SR K G ((Dx, o') :: tmp) F' (wipe σ vs) H' env' fp' → Own K F' H' acc' Dx → Qd acc' env' → Q H') : tLoop J (liftG K G vs wg) (liftT K G wt) (liftB K G wb ws Dx) vs σ H Q := by
  obtain ⟨fpw, Sw⟩ := S.wipe hv
  refine ⟨fun i m H' => m = ds.length - i ∧ i ≤ ds.length ∧ ∃ F' env' fp' acc o, SR K G ((Dx, o) :: tmp) F' (wipe σ vs) H' env' fp' ∧ Ext F H F' H' ∧ Own K F' H' acc Dx ∧ nbGo wg wt wb vs (ds.drop i) acc env' Qd, ⟨_, rfl, Nat.zero_le _, F, _, fpw, acc, o, Sw, Ext.refl, w, by simpa using h⟩, ?_⟩
  rintro i m H' ⟨rfl, hi', F', env', fp', acc, o, S', e', w', q⟩
  obtain ⟨t1, t2⟩ := it _ _ _ _ _ _ e' S' i
  rcases Nat.lt_or_ge i ds.length with hlt | hge
  · have hd : ds[i]? = some ds[i] := List.getElem?_eq_getElem hlt
    obtain ⟨go, yl⟩ := t1 _ hd
    rw [List.drop_eq_getElem_cons hlt] at q
    refine .inr ⟨go, fun H2 => ∃ F2 env2 fp2 acc o, SR K G ((Dx, o) :: tmp) F2 (wipe σ vs) H2 env2 fp2 ∧ Ext F H F2 H2 ∧ Own K F2 H2 acc Dx ∧ nbGo wg wt wb vs (ds.drop (i + 1)) acc env2 Qd, fun H2 z => ⟨_, by omega, rfl, hlt, z⟩, fun x H3 y => ?_⟩
    obtain ⟨F3, S3, e3, rd⟩ := yl x H3 y
    refine ⟨_, F3, env', fp', _, _, S3, rd, q, fun σ4 env4 fp4 S4 l4 k4 q4 => ?_⟩
    have ew2 : wipe σ4 vs = wipe σ vs := by
      rw [show wipe σ4 vs = wipe (wipe σ vs) vs from wipe_eq l4 k4]
      exact wipe_eq (by rw [wipe_length]) fun m hm => wipe_off hm
    have w3 := Own.aside S' S3 e3 w'
    refine ⟨ew2, _, F3, env4, fp4, _, S4, q4, fun b env5 H5 F5 fp5 e5 S5 q5 => ?_⟩
    have ln : ∀ {env : EnvD} {tmp : List (Addr × HO)} {F : Addr → Prop} {σ6 : St} {H : Hp} {fp : Nat → List Addr}, SR K G tmp F σ6 H env fp → σ6.length = σ4.length → ∀ v ∈ vs, v < env.length := fun Z l v hm => by
      rw [← Z.len, l, l4, wipe_length, S.len]
      exact hv v hm
    have w5 := Own.aside S3 S5 e5 w3
    cases b with
    | false =>
      dsimp only
      rw [if_neg Bool.false_ne_true]
      rw [if_neg Bool.false_ne_true] at q5
      obtain ⟨fp6, S6⟩ := S5.wipe (ln S5 rfl)
      rw [ew2] at S6
      exact ⟨F5, _, fp6, acc, o, S6, (e'.trans e3).trans e5, w5, q5⟩
    | true =>
      dsimp only
      rw [if_pos rfl]
      rw [if_pos rfl] at q5
      refine ⟨_, F5, env5, fp5, acc, o, _, S5, w5, nt, q5, fun acc6 o6 env6 H6 F6 fp6 e6 S6 w6 q6 => ?_⟩
      obtain ⟨fp7, S7⟩ := S6.wipe (ln S6 (wipe_length _ _))
      rw [wipe_wipe hw, ew2] at S7
      exact ⟨F6, _, fp7, acc6, o6, S7, ((e'.trans e3).trans e5).trans e6, w6, q6⟩
  · have ei : i = ds.length := by omega
    refine .inl ⟨t2 hge, ?_⟩
    rw [ei, List.drop_length] at q
    exact k acc o env' H' F' fp' e' S' w' q
theorem lift_mid {σ : St} {H : Hp} {Q : Hp → Prop} (hw : ∀ i ∈ ws, i ∈ vs) (h : liftB K G (wbMid wi wg wt wb vs) vs Dx σ H Q) : tbMid (liftI K G wi) (liftG K G vs wg) (liftT K G wt) (liftB K G wb ws Dx) vs σ H Q := by
  obtain ⟨tmp, F, env, fp, acc, o, Qd, S, w, nt, h, k⟩ := h
  refine ⟨_, F, env, fp, _, S, h, fun ds env1 H1 F1 fp1 J e1 S1 it h1 => ?_⟩
  exact lift_loop S1 (Own.aside S S1 e1 w) nt it h1.1 hw h1.2 fun acc' o' env' H' F' fp' e' S' w' q => k acc' o' env' H' F' fp' (e1.trans e') S' w' q
theorem lift_last {wk wv : WE} {σ : St} {H : Hp} {Q : Hp → Prop} (h : liftB K G (wbLast wk wv) [] Dx σ H Q) : tbLast (lift K G wk) (lift K G wv) Dx σ H Q := by
  obtain ⟨tmp, F, env, fp, acc, o, Qd, S, w, nt, h, k⟩ := h
  refine lift2 S h fun rk rx env6 y1 z1 H6 F6 fp6 e6 S6 rk6 rx6 q6 => ?_
  obtain ⟨x7, env7, F7, fp7, S7, e7, rd7, q7⟩ := S6.fz rx6 q6
  have rk7 := rk6.mono (env' := env7) (fp' := fp7) e7
  have w7 := Own.aside S S7 (e6.trans e7) w
  split at q7
  · rename_i kvs kk hk
    obtain ⟨kd, hk1, hk2⟩ := Option.bind_eq_some_iff.mp hk
    have ey := kD_lk (Lk.of_pk S7 rk7 hk1) hk2
    obtain ⟨ks, g1, rv⟩ := w7
    obtain ⟨g2, g3, g4, g5⟩ := S7.tm (Dx, o) List.mem_cons_self
    rw [g1] at g2
    cases g2
    refine ⟨ks, kk, ey, g1, by rw [← rv.length]; exact q7.1, ?_⟩
    obtain ⟨S8, e8⟩ := S7.tmSet (o' := .dK (putK ks kk z1)) rfl nt
    exact k (.dct (putD kvs kk x7)) _ env7 _ F7 fp7 ((e6.trans e7).trans e8) S8 ⟨_, upd_same, (rv.put kk rd7).mono e8⟩ q7.2
  · exact q7.elim
theorem lift_dcN {σ : St} {H : Hp} {Q : VK} (hw : ∀ i ∈ ws, i ∈ vs) (h : lift K G (wDcN wi wg wt wb vs) σ H Q) : tDcN (liftI K G wi) (liftG K G vs wg) (liftT K G wt) (fun A => liftB K G wb ws A) vs σ H Q := by
  obtain ⟨tmp, F, env, fp, Qd, S, h, k⟩ := h
  refine ⟨tmp, F, env, fp, _, S, h, fun ds env1 H1 F1 fp1 J e1 S1 it h1 => ?_⟩
  obtain ⟨ok, h1⟩ := h1
  intro A nA
  have nT := S1.newT nA
  have Sa : SR K G ((A, .dK []) :: tmp) F1 σ (upd H1 A (.dK [])) env1 fp1 := (S1.alloc nA).aside upd_same (S1.newF nA) (S1.newFp nA) (S1.newG nA)
  have ea : Ext F1 H1 F1 (upd H1 A (.dK [])) := Ext.upd (S1.newF nA)
  refine lift_loop (acc := .dct []) Sa ⟨[], upd_same, .nil⟩ nT (it.later ea) (fun v hv => (ok.2 v hv).1) hw h1 fun acc o env' H' F' fp' e' S' w' q => ?_
  obtain ⟨ql, q⟩ := q
  obtain ⟨fp9, S9⟩ := SR.unw S1 (ea.trans e') ok ql S'
  have g1 := (S'.tm (A, o) List.mem_cons_self).1
  exact k (.fr acc) _ _ _ _ _ ((e1.trans ea).trans e') S9.untm (RV.back (d := acc) S9 Ext.refl g1 w' nT) q
end
end DL
namespace DL
open PySem PySem.Spec PyProof.Rows L2
section
variable {X : Cx} {G : Gh} {kx vx t0 i0 t1 i1 t2 i2 : Expr} {f0 f1 f2 : List Expr} {scope : Scope} {pos : Pos} {w0 w1 w2 : WI} {g0 g1 g2 : WG} {c0 c1 c2 : WT} {wk wv : WE}
/-- {k: v for .. for ..} -/
theorem de_dc2 {own : List (Str × Nat)} {v1 : List Nat} (hc : X.calm = true) (hN : X.N.Nodup) (hi : DI X G t0 i0 w0) (ok : BlkOk X.N X.env.scope scope own) (h1 : ∀ i ∈ v1, i ∈ own.map (·.2))
    (hg0 : ∀ (s : Shared) (H : Hp) (C : Addr) (cl : List (Str × Addr)) (fp : List Addr), DG (X.blk s H scope (compEnvC scope cl C X.env) fp) G t0 (own.map (·.2)) g0) (ht0 : ∀ (s : Shared) (H : Hp) (C : Addr) (cl : List (Str × Addr)) (fp : List Addr), PTs (X.blk s H scope (compEnvC scope cl C X.env) fp) f0 (liftT X.K G c0))
    (hi1 : ∀ (s : Shared) (H : Hp) (C : Addr) (cl : List (Str × Addr)) (fp : List Addr), DI (X.blk s H scope (compEnvC scope cl C X.env) fp) G t1 i1 w1)
    (hg1 : ∀ (s : Shared) (H : Hp) (C : Addr) (cl : List (Str × Addr)) (fp : List Addr), DG (X.blk s H scope (compEnvC scope cl C X.env) fp) G t1 v1 g1) (ht1 : ∀ (s : Shared) (H : Hp) (C : Addr) (cl : List (Str × Addr)) (fp : List Addr), PTs (X.blk s H scope (compEnvC scope cl C X.env) fp) f1 (liftT X.K G c1))
    (hk : ∀ (s : Shared) (H : Hp) (C : Addr) (cl : List (Str × Addr)) (fp : List Addr), DE (X.blk s H scope (compEnvC scope cl C X.env) fp) G kx wk) (hv : ∀ (s : Shared) (H : Hp) (C : Addr) (cl : List (Str × Addr)) (fp : List Addr), DE (X.blk s H scope (compEnvC scope cl C X.env) fp) G vx wv)
    (hs : ∀ x, foldedSetIterable i0 X.env x = pure x := by intro _; rfl) (hs1 : ∀ env x, foldedSetIterable i1 env x = pure x := by intro _ _; rfl) :
    DE X G (.DictComp kx vx [⟨t0, i0, f0, 0⟩, ⟨t1, i1, f1, 0⟩] scope pos) (wDcN w0 g0 c0 (wbMid w1 g1 c1 (wbLast wk wv) v1) (own.map (·.2))) :=
  PE.imp (pe_dcN (wb := v1) (tb := fun D => liftB X.K G (wbMid w1 g1 c1 (wbLast wk wv) v1) v1 D) (bd := fun D env => midB (.DictComp kx vx [⟨t0, i0, f0, 0⟩, ⟨t1, i1, f1, 0⟩] scope pos) 0 i1 (.ref D) env) hc hN hi ok h1 (fun _ _ _ => turn_mid rfl rfl) hg0 ht0
    (fun s H C cl fp D => NB.imp (nb_mid hc rfl rfl (fun _ => turn_last rfl rfl) (fun x => hs1 _ x) (hi1 s H C cl fp) (hg1 s H C cl fp) (ht1 s H C cl fp) (NB.imp (nb_last rfl (hk s H C cl fp) (hv s H C cl fp)) fun _ _ _ h => lift_last h) (fun i h => (by cases h))) fun _ _ _ h => lift_mid (fun i h => (by cases h)) h) hs)
    fun _ _ _ h => lift_dcN h1 h
/-- {k: v for .. for .. for ..} -/
theorem de_dc3 {own : List (Str × Nat)} {v1 v2 : List Nat} (hc : X.calm = true) (hN : X.N.Nodup) (hi : DI X G t0 i0 w0) (ok : BlkOk X.N X.env.scope scope own) (h1 : ∀ i ∈ v1, i ∈ own.map (·.2)) (h2 : ∀ i ∈ v2, i ∈ v1)
    (hg0 : ∀ (s : Shared) (H : Hp) (C : Addr) (cl : List (Str × Addr)) (fp : List Addr), DG (X.blk s H scope (compEnvC scope cl C X.env) fp) G t0 (own.map (·.2)) g0) (ht0 : ∀ (s : Shared) (H : Hp) (C : Addr) (cl : List (Str × Addr)) (fp : List Addr), PTs (X.blk s H scope (compEnvC scope cl C X.env) fp) f0 (liftT X.K G c0))
    (hi1 : ∀ (s : Shared) (H : Hp) (C : Addr) (cl : List (Str × Addr)) (fp : List Addr), DI (X.blk s H scope (compEnvC scope cl C X.env) fp) G t1 i1 w1)
    (hg1 : ∀ (s : Shared) (H : Hp) (C : Addr) (cl : List (Str × Addr)) (fp : List Addr), DG (X.blk s H scope (compEnvC scope cl C X.env) fp) G t1 v1 g1) (ht1 : ∀ (s : Shared) (H : Hp) (C : Addr) (cl : List (Str × Addr)) (fp : List Addr), PTs (X.blk s H scope (compEnvC scope cl C X.env) fp) f1 (liftT X.K G c1))
    (hi2 : ∀ (s : Shared) (H : Hp) (C : Addr) (cl : List (Str × Addr)) (fp : List Addr), DI (X.blk s H scope (compEnvC scope cl C X.env) fp) G t2 i2 w2)
    (hg2 : ∀ (s : Shared) (H : Hp) (C : Addr) (cl : List (Str × Addr)) (fp : List Addr), DG (X.blk s H scope (compEnvC scope cl C X.env) fp) G t2 v2 g2) (ht2 : ∀ (s : Shared) (H : Hp) (C : Addr) (cl : List (Str × Addr)) (fp : List Addr), PTs (X.blk s H scope (compEnvC scope cl C X.env) fp) f2 (liftT X.K G c2))
    (hk : ∀ (s : Shared) (H : Hp) (C : Addr) (cl : List (Str × Addr)) (fp : List Addr), DE (X.blk s H scope (compEnvC scope cl C X.env) fp) G kx wk) (hv : ∀ (s : Shared) (H : Hp) (C : Addr) (cl : List (Str × Addr)) (fp : List Addr), DE (X.blk s H scope (compEnvC scope cl C X.env) fp) G vx wv)
    (hs : ∀ x, foldedSetIterable i0 X.env x = pure x := by intro _; rfl) (hs1 : ∀ env x, foldedSetIterable i1 env x = pure x := by intro _ _; rfl) (hs2 : ∀ env x, foldedSetIterable i2 env x = pure x := by intro _ _; rfl) :
    DE X G (.DictComp kx vx [⟨t0, i0, f0, 0⟩, ⟨t1, i1, f1, 0⟩, ⟨t2, i2, f2, 0⟩] scope pos) (wDcN w0 g0 c0 (wbMid w1 g1 c1 (wbMid w2 g2 c2 (wbLast wk wv) v2) v1) (own.map (·.2))) :=
  PE.imp (pe_dcN (wb := v1) (tb := fun D => liftB X.K G (wbMid w1 g1 c1 (wbMid w2 g2 c2 (wbLast wk wv) v2) v1) v1 D) (bd := fun D env => midB (.DictComp kx vx [⟨t0, i0, f0, 0⟩, ⟨t1, i1, f1, 0⟩, ⟨t2, i2, f2, 0⟩] scope pos) 0 i1 (.ref D) env) hc hN hi ok h1 (fun _ _ _ => turn_mid rfl rfl) hg0 ht0
    (fun s H C cl fp D => NB.imp (nb_mid hc rfl rfl (fun _ => turn_mid rfl rfl) (fun x => hs1 _ x) (hi1 s H C cl fp) (hg1 s H C cl fp) (ht1 s H C cl fp)
      (NB.imp (nb_mid hc rfl rfl (fun _ => turn_last rfl rfl) (fun x => hs2 _ x) (hi2 s H C cl fp) (hg2 s H C cl fp) (ht2 s H C cl fp) (NB.imp (nb_last rfl (hk s H C cl fp) (hv s H C cl fp)) fun _ _ _ h => lift_last h) (fun i h => (by cases h))) fun _ _ _ h => lift_mid (fun i h => (by cases h)) h) h2)
      fun _ _ _ h => lift_mid h2 h) hs)
    fun _ _ _ h => lift_dcN h1 h
/-- y = {k: v for .. for .. for ..} on one line -/
theorem ds_setDc3 {y : Str} {py spos : Pos} (k : Nat) {own : List (Str × Nat)} {v1 v2 : List Nat} (hc : X.calm = true) (hN : X.N.Nodup) (hi : DI X G t0 i0 w0) (ok : BlkOk X.N X.env.scope scope own) (h1 : ∀ i ∈ v1, i ∈ own.map (·.2)) (h2 : ∀ i ∈ v2, i ∈ v1)
    (hg0 : ∀ (s : Shared) (H : Hp) (C : Addr) (cl : List (Str × Addr)) (fp : List Addr), DG (X.blk s H scope (compEnvC scope cl C X.env) fp) G t0 (own.map (·.2)) g0) (ht0 : ∀ (s : Shared) (H : Hp) (C : Addr) (cl : List (Str × Addr)) (fp : List Addr), PTs (X.blk s H scope (compEnvC scope cl C X.env) fp) f0 (liftT X.K G c0))
    (hi1 : ∀ (s : Shared) (H : Hp) (C : Addr) (cl : List (Str × Addr)) (fp : List Addr), DI (X.blk s H scope (compEnvC scope cl C X.env) fp) G t1 i1 w1)
    (hg1 : ∀ (s : Shared) (H : Hp) (C : Addr) (cl : List (Str × Addr)) (fp : List Addr), DG (X.blk s H scope (compEnvC scope cl C X.env) fp) G t1 v1 g1) (ht1 : ∀ (s : Shared) (H : Hp) (C : Addr) (cl : List (Str × Addr)) (fp : List Addr), PTs (X.blk s H scope (compEnvC scope cl C X.env) fp) f1 (liftT X.K G c1))
    (hi2 : ∀ (s : Shared) (H : Hp) (C : Addr) (cl : List (Str × Addr)) (fp : List Addr), DI (X.blk s H scope (compEnvC scope cl C X.env) fp) G t2 i2 w2)
    (hg2 : ∀ (s : Shared) (H : Hp) (C : Addr) (cl : List (Str × Addr)) (fp : List Addr), DG (X.blk s H scope (compEnvC scope cl C X.env) fp) G t2 v2 g2) (ht2 : ∀ (s : Shared) (H : Hp) (C : Addr) (cl : List (Str × Addr)) (fp : List Addr), PTs (X.blk s H scope (compEnvC scope cl C X.env) fp) f2 (liftT X.K G c2))
    (hk : ∀ (s : Shared) (H : Hp) (C : Addr) (cl : List (Str × Addr)) (fp : List Addr), DE (X.blk s H scope (compEnvC scope cl C X.env) fp) G kx wk) (hv : ∀ (s : Shared) (H : Hp) (C : Addr) (cl : List (Str × Addr)) (fp : List Addr), DE (X.blk s H scope (compEnvC scope cl C X.env) fp) G vx wv)
    (hy : X.N[k]? = some y := by rfl) (hyl : X.env.scope.names.lookup y = some .local := by rfl) (hsw : swapsWith (.DictComp kx vx [⟨t0, i0, f0, 0⟩, ⟨t1, i1, f1, 0⟩, ⟨t2, i2, f2, 0⟩] scope pos) (some (.Name y py)) spos.line X.env = pure true := by rfl)
    (hs : ∀ x, foldedSetIterable i0 X.env x = pure x := by intro _; rfl) (hs1 : ∀ env x, foldedSetIterable i1 env x = pure x := by intro _ _; rfl) (hs2 : ∀ env x, foldedSetIterable i2 env x = pure x := by intro _ _; rfl) :
    DS X G (.Assign [.Name y py] (.DictComp kx vx [⟨t0, i0, f0, 0⟩, ⟨t1, i1, f1, 0⟩, ⟨t2, i2, f2, 0⟩] scope pos) spos) (sSet k (wDcN w0 g0 c0 (wbMid w1 g1 c1 (wbMid w2 g2 c2 (wbLast wk wv) v2) v1) (own.map (·.2)))) := by
  refine PS.imp (ps_setDcN (wb := v1) (tb := fun D => liftB X.K G (wbMid w1 g1 c1 (wbMid w2 g2 c2 (wbLast wk wv) v2) v1) v1 D) (bd := fun D env => midB (.DictComp kx vx [⟨t0, i0, f0, 0⟩, ⟨t1, i1, f1, 0⟩, ⟨t2, i2, f2, 0⟩] scope pos) 0 i1 (.ref D) env) hc hN hi ok h1 (fun _ _ _ => turn_mid rfl rfl) hg0 ht0
    (fun s H C cl fp D => NB.imp (nb_mid hc rfl rfl (fun _ => turn_mid rfl rfl) (fun x => hs1 _ x) (hi1 s H C cl fp) (hg1 s H C cl fp) (ht1 s H C cl fp)
      (NB.imp (nb_mid hc rfl rfl (fun _ => turn_last rfl rfl) (fun x => hs2 _ x) (hi2 s H C cl fp) (hg2 s H C cl fp) (ht2 s H C cl fp) (NB.imp (nb_last rfl (hk s H C cl fp) (hv s H C cl fp)) fun _ _ _ h => lift_last h) (fun i h => (by cases h))) fun _ _ _ h => lift_mid (fun i h => (by cases h)) h) h2)
      fun _ _ _ h => lift_mid h2 h) hs hy hyl hsw) fun D σ H h => lift_dcN h1 ?_
  obtain ⟨tmp, F, env, fp, Dd, S, h, k⟩ := h
  refine ⟨tmp, F, env, fp, _, S, h, fun r env1 v H1 F1 fp1 e1 S1 r1 h1 => ?_⟩
  obtain ⟨env2, F2, fp2, S2, e2, h2⟩ := S1.setSl r1 h1
  exact k.nx _ _ _ _ _ (e1.trans e2) S2 h2
end
/-! ### {'a': x, ..} -/
def dispD (kvs : List (Key × D)) : List (Key × D) := kvs.foldl (fun acc kv => putD acc kv.1 kv.2) []
def wDspL : List (Key × WE) → EnvD → (List (Key × D) → EnvD → Prop) → Prop
  | [], env, Q => Q [] env
  | (k, we) :: r, env, Q => we env fun x env1 => fz x.hold env1 fun d env2 => wDspL r env2 fun kvs env3 => Q ((k, d) :: kvs) env3
def wDsp (l : List (Key × WE)) : WE := fun env Q => wDspL l env fun kvs env1 => Q (.fr (.dct (dispD kvs))) env1
structure DPs (X : Cx) (G : Gh) (pos : Pos) (ks : List (Option Expr)) (vs : List Expr) (l : List (Key × WE)) : Prop where
  run : PPs X pos ks vs (l.map fun q => (tC (kV q.1), lift X.K G q.2))
theorem dps_nil {X : Cx} {G : Gh} {pos : Pos} : DPs X G pos [] [] [] := ⟨pps_nil⟩
theorem dps_str {X : Cx} {G : Gh} {pos p2 : Pos} {x : Str} {j : Nat} {v : Expr} {ks : List (Option Expr)} {vs : List Expr} {we : WE} {l : List (Key × WE)} (hv : DE X G v we) (r : DPs X G pos ks vs l) : DPs X G pos (some (.Constant (.str x) j p2) :: ks) (v :: vs) ((.inr x, we) :: l) :=
  ⟨pps_cons pe_str hv r.run⟩
theorem lift_pairs {K : PySem.W.Frag} {G : Gh} {σ : St} : ∀ {l : List (Key × WE)} {tmp : List (Addr × HO)} {F : Addr → Prop} {H : Hp} {env : EnvD} {fp : Nat → List Addr} {Qd : List (Key × D) → EnvD → Prop} {Q : List (V × V) → Hp → Prop}, SR K G tmp F σ H env fp → wDspL l env Qd →
    (∀ kvs vs env' H' F' fp', kvs.length = l.length → Ext F H F' H' → SR K G tmp F' σ H' env' fp' → DatK K F' H' kvs vs → Qd kvs env' → Q (vs.map fun kv => (kV kv.1, kv.2)) H') → tPairs (l.map fun q => (tC (kV q.1), lift K G q.2)) σ H Q
  | [], _, _, _, _, _, _, _, S, h, k => k [] [] _ _ _ _ rfl Ext.refl S .nil h
  | (k0, we) :: l, _, _, _, _, _, _, _, S, h, k => by
    refine ⟨_, _, _, _, _, S, h, fun r env1 v H1 F1 fp1 e1 S1 r1 h1 => ?_⟩
    obtain ⟨F1', S1', e1', r1'⟩ := S1.hold r1
    obtain ⟨d, env2, F2, fp2, S2, e2, r2, h2⟩ := S1'.fz r1' h1
    refine lift_pairs (l := l) S2 h2 fun kvs vs env3 H3 F3 fp3 hl e3 S3 r3 h3 => ?_
    exact k ((k0, d) :: kvs) ((k0, v) :: vs) env3 H3 F3 fp3 (by simp [hl]) (((e1.trans e1').trans e2).trans e3) S3 (.cons (r2.mono e3) r3) h3
theorem DatK.mrg {K : PySem.W.Frag} {F : Addr → Prop} {H : Hp} : ∀ (ds : List (Key × D)) (vs : List (Key × V)) (as : List (Key × D)) (bs : List (Key × V)), DatK K F H ds vs → DatK K F H as bs → DatK K F H (ds.foldl (fun acc kv => putD acc kv.1 kv.2) as) (mergeK bs vs)
  | [], _, _, _, .nil, h => h
  | (k, d) :: ds, (_, v) :: vs, _, _, .cons hd t, h => DatK.mrg ds vs _ _ t (h.put k hd)
theorem de_dsp {X : Cx} {G : Gh} {pos : Pos} {ks : List (Option Expr)} {vs : List Expr} {l : List (Key × WE)} (h : DPs X G pos ks vs l) (hall : ks.all (·.isSome) = true := by rfl) (hl : ks.length = vs.length := by rfl) (h0 : ks ≠ [] := by simp) (h15 : ks.length ≤ 15 := by decide) (hl2 : l.length ≤ 15 := by decide) :
    DE X G (.Dict ks vs pos) (wDsp l) := by
  refine PE.imp (pe_disp h.run hall hl h0 h15) fun σ H Q z => ?_
  obtain ⟨tmp, F, env, fp, Qd, S, z, k⟩ := z
  intro p np
  have Sa : SR X.K G ((p, .dK []) :: tmp) F σ (upd H p (.dK [])) env fp := (S.alloc np).aside upd_same (S.newF np) (S.newFp np) (S.newG np)
  refine lift_pairs Sa z fun kvs ws env' H' F' fp' hl' e' S' r q => ?_
  have g1 := (S'.tm (p, .dK []) List.mem_cons_self).1
  refine ⟨g1, ws, rfl, by rw [← r.length, hl']; exact hl2, ?_⟩
  obtain ⟨S2, e2⟩ := S'.tmSet (o' := .dK (mergeK [] ws)) rfl (S.newT np)
  have ow : Own X.K F' (upd H' p (.dK (mergeK [] ws))) (.dct (dispD kvs)) p := ⟨_, upd_same, (DatK.mrg _ _ _ _ r .nil).mono e2⟩
  exact k (.fr (.dct (dispD kvs))) env' _ _ F' fp' (((Ext.upd (S.newF np)).trans e').trans e2) S2.untm (RV.back S2 Ext.refl upd_same ow (S.newT np)) q
/-! ### C(x = v) -/
section
variable {X : Cx} {G : Gh} {k n m : Nat} {f : Addr} {fd : FuncData} {ps ks : List Str} {sem : Sem} {E : XK} {Ed : XD → EnvD → Prop} {c x : Str} {p pos : Pos} {kws : List Keyword} {ms : List Bool} {wr : WA} {g : List Value → List Value → List Value}
abbrev DK (X : Cx) (G : Gh) (kws : List Keyword) (n : Nat) (w : WA) : Prop := PK X kws (liftA X.K G n w)
theorem dk_one {nm : Option Str} {e : Expr} {kpos : Pos} {we : WE} (h : DE X G e we) : DK X G [⟨nm, e, kpos⟩] 1 (wCons we wNil) := ⟨fun pos pins s σ H Q I q => by
  refine (pk_cons (nm := nm) (kpos := kpos) h pk_nil).run pos pins s σ H Q I ?_
  obtain ⟨tmp, F, env, fp, Qd, S, q, k⟩ := q
  refine ⟨tmp, F, env, fp, _, S, q, fun r env1 v H1 F1 fp1 e1 S1 r1 h1 => ?_⟩
  obtain ⟨F1', S1', e1', r1'⟩ := S1.hold r1
  exact k [r.hold] env1 [v] H1 F1' fp1 rfl (e1.trans e1') S1' (RVs.cons r1' .nil) h1⟩
theorem de_makeK (M : Mk X.K (He.ga X.K c) f) (F : FnOk X.prog X.w X.K X.mg X.base (L2.CX X.prog X.w) k f fd ps (spD X.K n sem)) (hr : Room (k + 1) X.A) (hg : Gl X x) (hm : X.mg x = some (.ref (He.ga X.K c))) (hb : KBn X.K fd ps 1 ks g (fun vs zs => vs ++ zs))
    (hx : Passes (L2.CX X.prog X.w) X E) (hlk : Link X.K G E Ed) (ha : DK X G kws m wr) (hn : m + 1 = n := by rfl) (hkl : ks.length = m := by rfl)
    (hall : (backToKw pos (keywordEach kws X.env)).all (·.1.isSome) = true := by rfl) (hks : (backToKw pos (keywordEach kws X.env)).filterMap (·.1) = ks := by rfl) (hdb : (x == ("__debug__" : Str)) = false := by decide)
    (hpl : ((backTo pos (starEach [] X.env)).any (·.1) || (backToKw pos (keywordEach kws X.env)).any (·.1.isNone)) = false := by rfl) : DE X G (.Call (.Name x p) [] kws pos) (wMake c sem ms [] wr Ed) := by
  refine PE.imp (pe_makeK0 M F hr hg hm hb hx ha hall hks hdb hpl) fun σ H Q h => ?_
  have q := lift_make (dargs := []) (dvs := []) hlk (fun _ _ => .nil) (by simpa using hn) h
  obtain ⟨tmp, F, env, fp, Qd, S, w, kk⟩ := q
  show liftA X.K G m wr σ H _
  refine ⟨tmp, F, env, fp, Qd, S, w, fun rs env' vs H' F' fp' hl e' S' r' q => ?_⟩
  have z := kk rs env' vs H' F' fp' hl e' S' r' q
  refine ⟨rfl, by rw [r'.length, hl, hkl], fun xa dx h1 h2 h3 => ?_⟩
  have z2 := z xa dx h1 h2 h3
  rw [List.append_nil] at z2
  exact z2
end
end DL
namespace DL
open PySem PySem.Spec PyProof.Rows L2
/-! ### len of an own class -/
structure LenOk (P : Program) (w : World) (K : PySem.W.Frag) (mg : Str → Option Value) (base : Heap) (k : Nat) (c : Str) (sem : Sem) : Prop where
  ex : ∃ (f : Addr) (fd : FuncData) (ps : List Str), PySem.W.findIn K (.ref (He.ga K c)) "__len__" = some (some (.ref f)) ∧ PySem.W.isFn K (.ref f) = true ∧ FnOk P w K mg base (L2.CX P w) k f fd ps (spD K 1 sem) ∧ Binds K fd ps []
def wLenO (c : Str) (sem : Sem) (we : WE) : WE := fun env Q => we env fun r env1 => fz r env1 fun d env2 => (∃ fs, d = .ins c fs) ∧ sem [.im d] (fun r' _ => ∃ n : Int, r' = .sh (.int n) ∧ 0 ≤ n ∧ n < 9223372036854775808 ∧ Q (.sh (.int n)) env2) (fun _ _ => False)
section
variable {X : Cx} {G : Gh} {k : Nat} {c : Str} {sem : Sem} {f : Addr} {fd : FuncData} {ps : List Str} {sp : Sp}
theorem call_lenO (hs : PySem.W.findIn X.K (.ref (He.ga X.K c)) "__len__" = some (some (.ref f))) (hf : PySem.W.isFn X.K (.ref f) = true) (FN : FnOk X.prog X.w X.K X.mg X.base (L2.CX X.prog X.w) k f fd ps sp) (hb : Binds X.K fd ps []) (hr : Room (k + 1) X.A) (hx : Passes (L2.CX X.prog X.w) X E0) :
    CallR X (.builtin "len") (fun xs H Q => ∃ a dx gs, xs = [.ref a] ∧ H a = some (.ins (He.ga X.K c) dx gs) ∧ sp [.ref a] H (fun v H2 => ∃ n : Int, v = .int n ∧ 0 ≤ n ∧ n < 9223372036854775808 ∧ Q (.int n) H2) E0) := by
  intro pins s σ H xs us Q I r h
  obtain ⟨a, dx, gs, rfl, ha, q⟩ := h
  obtain ⟨u, rfl, ru⟩ := vals1 r
  cases ru
  obtain ⟨mA, J, _⟩ := ins_get I.hok ha
  obtain ⟨od, J, _⟩ := J.look
  obtain ⟨m, hF⟩ := I.fr
  refine PySem.W.len_K hF I.ok.mod.kin J hs hf ?_
  have g := I.env0
  have e0 : Env0 X.prog X.w X.K X.mg X.base X.A.in1 X.stack s H := ⟨g.frames, g.mod, g.bs, g.bsz, g.funs, g.frf, g.hok, g.bare⟩
  have hl := FN.len _ _ _ _ q
  refine wpAny_call (codeAny_mono (FN.run X.A.in1 X.stack s H ⟨[.ref a], []⟩ [.ref a] [.ref a] _ E0 hr.in1 e0 (by
    have z := hb s [.ref a] I.kIn (by simpa using hl)
    simpa using z) (.cons rfl .nil) q) fun r s' hr => ?_)
  cases r with
  | error er => exact hx pins σ H s er s' I hr
  | ok fl =>
    cases fl with
    | ret w =>
      obtain ⟨z, H', I', rz, n, ez, n0, n1, q'⟩ := I.after hr
      subst ez
      obtain ⟨t, rfl⟩ := rz
      exact ⟨⟨n0, by simpa using n1⟩, .int n, H', I'.tok _, ⟨_, rfl⟩, q'⟩
    | next => exact False.elim hr
    | brk => exact False.elim hr
    | cont => exact False.elim hr
theorem de_lenO {x : Str} {p pos : Pos} {e : Expr} {we : WE} (O : LenOk X.prog X.w X.K X.mg X.base k c sem) (hr : Room (k + 1) X.A) (hg : Gl X x) (hm : X.mg x = none) (hv : bootBuiltins x = some (.builtin "len")) (h : DE X G e we)
    (hn : x ≠ "__name__" := by decide) (hdb : (x == ("__debug__" : Str)) = false := by decide) (he : starEach [e] X.env = (false, eval e X.env) :: starEach [] X.env := by rfl) (hpl : (backTo pos (starEach [] X.env)).any (·.1) = false := by rfl) :
    DE X G (.Call (.Name x p) [e] [] pos) (wLenO c sem we) := by
  obtain ⟨f, fd, ps, h1, h2, FN, hb⟩ := O.ex
  refine PE.imp (pe_callB (call_lenO h1 h2 FN hb hr pass0) hg hm hv (pa_cons h pa_nil he) hn hdb he hpl) fun σ H Q z => ?_
  obtain ⟨tmp, F, env, fp, Qd, S, z, k⟩ := z
  refine ⟨tmp, F, env, fp, _, S, z, fun r env1 v H1 F1 fp1 e1 S1 r1 h1 => ?_⟩
  obtain ⟨d, env2, F2, fp2, S2, e2, r2, ⟨fs, rfl⟩, q⟩ := S1.fz r1 h1
  obtain ⟨a, dx, gs, rfl, ha, _⟩ := Lk.ins (Or.inl r2)
  refine ⟨a, dx, gs, rfl, ha, ?_⟩
  have av : AVs X.K F2 H1 σ [.im (.ins c fs)] [.ref a] := .im r2 .nil
  have hn : (ixs [Ar.im (D.ins c fs)]).Nodup := List.nodup_nil
  have hk : [Ar.im (D.ins c fs)].all (okA env2) = true := rfl
  refine ⟨rfl, ghOf G.T H1 F2 fp2 [.im (.ins c fs)] [.ref a], F2, _, _, _, _, S2.enter av hn hk, rfl, q, fun r w F' σ' H' env' fp' S3 r3 q3 => ?_, fun _ _ _ _ _ _ _ _ _ _ _ z => z.elim⟩
  obtain ⟨n, rfl, n0, n1, q3⟩ := q3
  have r3 : Dat X.K F' H' (.int n) w := r3
  cases r3
  obtain ⟨e5, S5⟩ := S2.leave av hn (m := 1) (Nat.le_refl _) S3
  have hpb : putBack env2 [Ar.im (D.ins c fs)] (env'.take 1) = env2 := by
    rcases env'.take 1 with _ | ⟨b, l⟩
    · rfl
    · cases l <;> rfl
  rw [hpb] at S5
  exact ⟨n, rfl, n0, n1, k (.sh (.int n)) env2 _ _ F' _ ((e1.trans e2).trans e5) S5 .int q3⟩
end
/-! ### a target of any form -/
def sAsg (we : WE) (wg : WG) : WS := fun env D => we env fun r env1 => fz r env1 fun d env2 => wg d env2 D.nx
theorem ds_asg {X : Cx} {G : Gh} {tg e : Expr} {pos : Pos} {we : WE} {vs : List Nat} {wg : WG} (he : DE X G e we) (hg : DG X G tg vs wg) (hs : swapsWithSole [tg] e pos.line X.env = pure false := by rfl) (hw : swappedStores [tg] e X.env = pure none := by rfl) (h1 : (assignEach [tg] X.env).map (·.2) = [assign tg X.env] := by rfl) : DS X G (.Assign [tg] e pos) (sAsg we wg) := by
  refine PS.imp (ps_asg he hg hs hw h1) fun D σ H h => ?_
  obtain ⟨tmp, F, env, fp, Dd, S, h, k⟩ := h
  refine ⟨tmp, F, env, fp, _, S, h, fun r env1 v H1 F1 fp1 e1 S1 r1 h1 => ?_⟩
  obtain ⟨d, env2, F2, fp2, S2, e2, r2, h2⟩ := S1.fz r1 h1
  exact ⟨tmp, F2, env2, fp2, d, _, S2, r2, h2, fun σ' env' fp' S3 _ _ q => k.nx _ _ _ _ _ (e1.trans e2) S3 q⟩
end DL
namespace DL
open PySem PySem.Spec PyProof.Rows L2
/-! ### the state of a law's draws is begun -/
/-- three new objects -/
structure Fresh3 (H H' : Hp) (p g c : Addr) : Prop where
  keep : ∀ a o, H a = some o → H' a = some o
  np : H p = none
  ng : H g = none
  nc : H c = none
  pg : p ≠ g
  pc : p ≠ c
  gc : g ≠ c
def spBegun (K : PySem.W.Frag) : Sp := fun vs H Q _ => ∃ a ns, vs = [.ref a] ∧ SqL K H a ((ns : List Int).map V.int) ∧ ns.length ≤ 1000 ∧ ∀ H' p g c, Fresh3 H H' p g c → StAt H' p g c 1000000000 → Q (.ref p) H'
abbrev bgAbs : TE := tCB (fun xs H Q => ∃ i, xs = [.int i] ∧ Q (.int (if i < 0 then -i else i)) H) (tCons (tVar 2) tNil)
abbrev bgPow : TE := tOp (rI CPow fun i j => .int (i ^ j.toNat)) (tC (.int 10)) (tC (.int 18))
def bgT (K : PySem.W.Frag) : TS := tSeq (tAsg (tLc (iList K (tVar 0)) (gName 2) (tTest (tOp (rI0 fun i j => .bl (decide (j ≤ i))) bgAbs bgPow)) (tOp (rI0 fun i j => .int (i - j)) bgAbs bgPow) [2]) (gName 1))
  (tRet (tDisp [(tC (.str "great"), tVar 1), (tC (.str "cells"), tLc (iList K (tVar 0)) (gName 2) tYes bgAbs [2]), (tC (.str "rest"), tC (.int 0)), (tC (.str "turn"), tC (.int 0))]))
theorem bg_abs {σ : St} {H : Hp} {i : Int} {Q : VK} (h2 : σ[2]? = some (some (.int i))) (q : Q (.int (if i < 0 then -i else i)) H) : bgAbs σ H Q := ⟨_, h2, i, rfl, q⟩
theorem bg_pow {σ : St} {H : Hp} {Q : VK} (q : Q (.int (10 ^ 18)) H) : bgPow σ H Q := ⟨10, 18, rfl, rfl, ⟨by decide, by decide, by decide⟩, q⟩
theorem SqL.up {K : PySem.W.Frag} {H H' : Hp} {a : Addr} {xs : List V} (h : SqL K H a xs) (k : ∀ b o, H b = some o → H' b = some o) : SqL K H' a xs := by
  rcases h with h | h
  · rcases h with h | ⟨o, h⟩
    · exact .inl (.inl (k _ _ h))
    · exact .inl (.inr ⟨o, k _ _ h⟩)
  · exact .inr h
theorem upd_keep {H : Hp} {p : Addr} {o : HO} (hp : H p = none) : ∀ b u, H b = some u → upd H p o b = some u := fun b u h => by
  rw [upd_ne (ne_of_none h hp)]
  exact h
theorem bg_plain {K : PySem.W.Frag} {a : Addr} {ns : List Int} {H : Hp} {Q : VK} {D : Ends} (hs : SqL K H a (ns.map V.int)) (hl : ns.length ≤ 1000) (hD : D.rt = Q) (q : ∀ H' p g c, Fresh3 H H' p g c → StAt H' p g c 1000000000 → Q (.ref p) H') :
    bgT K D [some (.ref a), none, none] H := by
  have sz : (1000 : Nat) < sizeLine := by rw [sizeLine_eq]; decide
  refine ⟨.ref a, rfl, a, rfl, ⟨_, hs⟩, fun g ng => ?_⟩
  refine lc_list (xs := ns.map V.int) (Pv := fun i H' => ∃ acc : List Int, H' = upd H g (.lst (acc.map V.int)) ∧ acc.length ≤ i ∧ ∀ x ∈ acc, 0 ≤ x) ⟨[], rfl, Nat.le_refl _, fun x h => nomatch h⟩ (fun i H' _ h => ?_) (fun i x H' hx h => ?_) fun H' h => ?_
  · obtain ⟨acc, rfl, _⟩ := h
    exact SqL.up hs (upd_keep ng)
  · obtain ⟨acc, rfl, h1, h2⟩ := h
    rw [List.getElem?_map] at hx
    obtain ⟨z, hz, rfl⟩ := Option.map_eq_some_iff.mp hx
    have hi : i < ns.length := (List.getElem?_eq_some_iff.mp hz).1
    refine ⟨rfl, ?_⟩
    refine ⟨.int z, rfl, z, rfl, 10, 18, rfl, rfl, ⟨by decide, by decide, by decide⟩, (if z < 0 then -z else z), (10 : Int) ^ 18, rfl, rfl, decide ((10 : Int) ^ 18 ≤ (if z < 0 then -z else z)), rfl, ?_⟩
    by_cases hc : (10 : Int) ^ 18 ≤ (if z < 0 then -z else z)
    · rw [decide_eq_true hc]
      dsimp only
      rw [if_pos rfl]
      refine ⟨.int z, rfl, z, rfl, 10, 18, rfl, rfl, ⟨by decide, by decide, by decide⟩, (if z < 0 then -z else z), (10 : Int) ^ 18, rfl, rfl, acc.map V.int, upd_same, by rw [List.length_map]; omega, acc ++ [(if z < 0 then -z else z) - 10 ^ 18], ?_, by simp; omega, fun x hx => ?_⟩
      · rw [upd_upd, List.map_append]; rfl
      · rcases List.mem_append.mp hx with hx | hx
        · exact h2 x hx
        · rw [List.mem_singleton.mp hx]; omega
    · rw [decide_eq_false hc]
      dsimp only
      rw [if_neg Bool.false_ne_true]
      exact ⟨acc, rfl, by omega, h2⟩
  obtain ⟨gs, rfl, _, g0⟩ := h
  intro p np
  have pg : p ≠ g := fun e => by rw [e, upd_same] at np; cases np
  have np0 : H p = none := by rw [upd_ne pg] at np; exact np
  refine ⟨.ref g, rfl, ?_⟩
  refine ⟨.ref a, rfl, a, rfl, ⟨_, SqL.up (SqL.up hs (upd_keep ng)) (upd_keep np)⟩, fun c nc => ?_⟩
  have cp : c ≠ p := fun e => by rw [e, upd_same] at nc; cases nc
  have nc1 : upd H g (.lst (gs.map V.int)) c = none := by rw [upd_ne cp] at nc; exact nc
  have cg : c ≠ g := fun e => by rw [e, upd_same] at nc1; cases nc1
  have nc0 : H c = none := by rw [upd_ne cg] at nc1; exact nc1
  refine lc_list (xs := ns.map V.int) (Pv := fun i H' => ∃ acc : List Int, H' = upd (upd (upd H g (.lst (gs.map V.int))) p (.dK [])) c (.lst (acc.map V.int)) ∧ acc.length ≤ i ∧ ∀ x ∈ acc, 0 ≤ x) ⟨[], rfl, Nat.le_refl _, fun x h => nomatch h⟩ (fun i H' _ h => ?_) (fun i x H' hx h => ?_) fun H' h => ?_
  · obtain ⟨acc, rfl, _⟩ := h
    exact SqL.up (SqL.up (SqL.up hs (upd_keep ng)) (upd_keep np)) (upd_keep nc)
  · obtain ⟨acc, rfl, h1, h2⟩ := h
    rw [List.getElem?_map] at hx
    obtain ⟨z, hz, rfl⟩ := Option.map_eq_some_iff.mp hx
    have hi : i < ns.length := (List.getElem?_eq_some_iff.mp hz).1
    refine ⟨rfl, ?_⟩
    unfold tYes
    dsimp only
    rw [if_pos rfl]
    refine ⟨.int z, rfl, z, rfl, acc.map V.int, upd_same, by rw [List.length_map]; omega, acc ++ [if z < 0 then -z else z], ?_, by simp; omega, fun x hx => ?_⟩
    · rw [upd_upd, List.map_append]; rfl
    · rcases List.mem_append.mp hx with hx | hx
      · exact h2 x hx
      · rw [List.mem_singleton.mp hx]; split <;> omega
  obtain ⟨cs, rfl, _, c0⟩ := h
  refine ⟨by rw [upd_ne (Ne.symm cp), upd_same], [(.inr "great", .ref g), (.inr "cells", .ref c), (.inr "rest", .int 0), (.inr "turn", .int 0)], rfl, (show 4 ≤ 15 by decide), ?_⟩
  rw [hD]
  refine q _ p g c ⟨fun b o h => ?_, np0, ng, nc0, pg, Ne.symm cp, Ne.symm cg⟩ ⟨gs, cs, 0, 0, ?_, ?_, ?_, Ne.symm cg, by decide, by decide, by decide, g0, c0⟩
  · rw [upd_ne (ne_of_none h np0), upd_ne (ne_of_none h nc0), upd_ne (ne_of_none h np0), upd_ne (ne_of_none h ng)]
    exact h
  · rw [upd_same]
    rfl
  · rw [upd_ne (Ne.symm pg), upd_ne (Ne.symm cg), upd_ne (Ne.symm pg), upd_same]
  · rw [upd_ne cp, upd_same]
/-- state = _law_begun(script) -/
def sBegun (i j : Nat) : WS := fun env D => i < env.length ∧ D.nx (env.set i (.st 1000000000))
section
variable {K : PySem.W.Frag} {G : Gh} {tmp : List (Addr × HO)} {F : Addr → Prop} {σ : St} {H H' : Hp} {env : EnvD} {fp : Nat → List Addr} {i : Nat} {p g c : Addr}
/-- the new state comes into a slot -/
theorem SR.begin (S : SR K G tmp F σ H env fp) (fr : Fresh3 H H' p g c) (st : StAt H' p g c 1000000000) (hi : i < env.length) (hS : G.S0.length ≤ i) : ∃ F' fp', SR K G tmp F' (σ.set i (some (.ref p))) H' (env.set i (.st 1000000000)) fp' ∧ Ext F H F' H' := by
  have same : ∀ {a : Addr} {o : HO}, H a = some o → H' a = some o := fun h => fr.keep _ _ h
  have e1 : Ext F H F H' := fun a f => by
    obtain ⟨o, h, _⟩ := S.dom a f
    exact ⟨f, Kp.of ((same h).trans h.symm)⟩
  have S1 : SR K G tmp F σ H' env fp := by
    refine ⟨S.len, fun j s h => ?_, S.dj, S.nf, S.ne, S.loc, fun j a h => ?_, fun q hq => ?_, fun a f => ?_, fun a o h h1 h2 => same (S.keepN a o h h1 h2), fun a f => ?_, S.grow, tabs_keep S.tabs fun a o h _ => same h, fun a h => ?_, S.par, S.ls, S.td⟩
    · obtain ⟨o, h1, h2⟩ := S.sl j s h
      refine ⟨o, h1, h2.same e1 fun a ha => ?_⟩
      obtain ⟨u, hu, _⟩ := h2.data a ha
      exact (same hu).trans hu.symm
    · obtain ⟨o, h1, d⟩ := S.own j a h
      exact ⟨o, same h1, d⟩
    · obtain ⟨h1, h2⟩ := S.tm q hq
      exact ⟨same h1, h2⟩
    · obtain ⟨o, h1, d⟩ := S.dom a f
      exact ⟨o, same h1, d⟩
    · obtain ⟨f1, k⟩ := S.keepF a f
      exact ⟨f1, (e1 a f1).2.trans k⟩
    · obtain ⟨o, h1⟩ := S.m0 a h
      exact ⟨o, same h1⟩
  obtain ⟨gs, cs, r, t, q1, q2, q3, gc, r0, t0, tn, g0, c0⟩ := st
  have S2 := S1.share (p := c) q3 rfl (S.newFp fr.nc) (S.newG fr.nc) (S.newT fr.nc)
  have offp : ∀ {a : Addr}, H a = none → a ≠ c → ¬ (F a ∨ a = c) := fun h n z => z.elim (S.newF h) n
  have S3 := S2.put (i := i) hi (s' := .st 1000000000) (o := some (.ref p)) (l := [p, g]) Ch.refl ⟨p, g, c, rfl, rfl, .inr rfl, gs, cs, r, t, q1, q2, q3, gc, r0, t0, tn, g0, c0⟩
    (fun a ha => ?_) (fun d e => nomatch e) (fun _ l => absurd l (by omega)) fun _ _ _ _ => rfl
  · exact ⟨_, _, S3, e1.trans Ext.share⟩
  · simp only [List.mem_cons, List.not_mem_nil, or_false] at ha
    rcases ha with rfl | rfl
    · exact .inr ⟨offp fr.np fr.pc, S.newFp fr.np, S.newG fr.np, S.newT fr.np⟩
    · exact .inr ⟨offp fr.ng fr.gc, S.newFp fr.ng, S.newG fr.ng, S.newT fr.ng⟩
end
end DL
namespace DL
open PySem PySem.Spec PyProof.Rows L2
/-! ### readings that have one answer -/
def Ev (we : WE) (env : EnvD) (r : R) (env' : EnvD) : Prop := ∀ Q : R → EnvD → Prop, Q r env' → we env Q
def Tv (wt : WT) (env : EnvD) (b : Bool) (env' : EnvD) : Prop := ∀ Q : Bool → EnvD → Prop, Q b env' → wt env Q
def Av (wr : WA) (env : EnvD) (rs : List R) (env' : EnvD) : Prop := ∀ Q : List R → EnvD → Prop, Q rs env' → wr env Q
def Iv (wi : WI) (env : EnvD) (ds : List D) (env' : EnvD) : Prop := ∀ Q : List D → EnvD → Prop, Q ds env' → wi env Q
section
variable {we wa wb wc wk wv : WE} {wt ta tb : WT} {wr : WA} {wi : WI} {env env1 env2 env3 : EnvD} {r ra rb : R} {rs : List R} {d da db : D} {b c : Bool} {i j : Int} {x y : Str} {n : Nat}
theorem Ev.var {k : Nat} (h : env[k]? = some (.im d)) : Ev (wVar k) env (.sh d) env := fun Q q => by
  unfold wVar
  rw [h]
  exact q
theorem Ev.varO {k : Nat} (h : env[k]? = some (.ow d)) : Ev (wVar k) env (.br k) env := fun Q q => by
  unfold wVar
  rw [h]
  exact q
theorem Ev.varP {k : Nat} (h : env[k]? = some (.pm d)) : Ev (wVar k) env (.br k) env := fun Q q => by
  unfold wVar
  rw [h]
  exact q
theorem Ev.varS {k : Nat} (h : env[k]? = some (.st n)) : Ev (wVar k) env (.br k) env := fun Q q => by
  unfold wVar
  rw [h]
  exact q
theorem Ev.cst : Ev (wC d) env (.sh d) env := fun _ q => q
theorem Ev.B {f : Op2} (ha : Ev wa env ra env1) (hb : Ev wb env1 rb env2) (pa : pk env2 ra = some da) (pb : pk env2 rb = some db) (hf : ∀ Q : R → Prop, Q r → f da db Q) : Ev (wB f wa wb) env r env2 := fun Q q => by
  refine ha _ (hb _ ?_)
  rw [pa, pb]
  exact hf _ q
theorem Ev.add (ha : Ev wa env (.sh (.int i)) env1) (hb : Ev wb env1 (.sh (.int j)) env2) : Ev (wB fAdd wa wb) env (.sh (.int (i + j))) env2 := Ev.B ha hb rfl rfl fun _ q => q
theorem Ev.sub (ha : Ev wa env (.sh (.int i)) env1) (hb : Ev wb env1 (.sh (.int j)) env2) : Ev (wB fSub wa wb) env (.sh (.int (i - j))) env2 := Ev.B ha hb rfl rfl fun _ q => q
theorem Ev.ixT {xs : List D} (ha : Ev wa env (.sh (.tup xs)) env1) (hb : Ev wb env1 (.sh (.int i)) env2) (h : atI xs i = some d) : Ev (wB fIx wa wb) env (.sh d) env2 := Ev.B ha hb rfl rfl fun _ q => by
  unfold fIx
  dsimp only
  rw [h]
  exact q
theorem Ev.ixL {xs : List D} (ha : Ev wa env ra env1) (hb : Ev wb env1 (.sh (.int i)) env2) (p : pk env2 ra = some (.lst xs)) (h : atI xs i = some d) : Ev (wB fIx wa wb) env (.sh d) env2 := Ev.B ha hb p rfl fun _ q => by
  unfold fIx
  dsimp only
  rw [h]
  exact q
theorem Ev.isi {ia : D → Option Bool} (h : Ev we env r env1) (p : pk env1 r = some d) (hi : ia d = some b) : Ev (wIsi ia we) env (.sh (.bl b)) env1 := fun Q q => by
  refine h _ ?_
  rw [p]
  show (match ia d with | some b => Q (.sh (.bl b)) env1 | none => False)
  rw [hi]
  exact q
theorem Av.nil : Av wNil env [] env := fun _ q => q
theorem Av.cons (ha : Ev we env r env1) (hr : Av wr env1 rs env2) : Av (wCons we wr) env (r.hold :: rs) env2 := fun _ q => ha _ (hr _ q)
theorem Av.sh (ha : Ev we env (.sh d) env1) (hr : Av wr env1 rs env2) : Av (wCons we wr) env (.sh d :: rs) env2 := fun _ q => ha _ (hr _ q)
theorem Av.fr (ha : Ev we env (.fr d) env1) (hr : Av wr env1 rs env2) : Av (wCons we wr) env (.sh d :: rs) env2 := fun _ q => ha _ (hr _ q)
theorem Av.br {k : Nat} (ha : Ev we env (.br k) env1) (hr : Av wr env1 rs env2) : Av (wCons we wr) env (.br k :: rs) env2 := fun _ q => ha _ (hr _ q)
theorem Ev.cb {f : OpA} {ds : List D} (ha : Av wr env rs env1) (p : pks env1 rs = some ds) (hf : ∀ Q : R → Prop, Q r → f ds Q) : Ev (wCB f wr) env r env1 := fun Q q => by
  refine ha _ ?_
  rw [p]
  exact hf _ q
theorem Ev.len (ha : Ev we env ra env1) (p : pk env1 ra.hold = some d) (hl : lenD d = some n) : Ev (wCB fLen (wCons we wNil)) env (.sh (.int n)) env1 := Ev.cb (rs := [ra.hold]) (Av.cons ha Av.nil) (ds := [d]) (by simp [pks, p]) fun Q q => by
  unfold fLen
  dsimp only
  rw [hl]
  exact q
theorem Ev.tup {ds : List D} (ha : Av wr env rs env1) (hf : ∀ P : List D → EnvD → Prop, P ds env2 → fzs rs env1 P) : Ev (wTup wr) env (.sh (.tup ds)) env2 := fun Q q => ha _ (hf _ q)
theorem Ev.lst {ds : List D} (ha : Av wr env rs env1) (hf : ∀ P : List D → EnvD → Prop, P ds env2 → fzs rs env1 P) : Ev (wLst wr) env (.fr (.lst ds)) env2 := fun Q q => ha _ (hf _ q)
/-! ### comparing -/
theorem Ev.eqX {top : D → D → Prop} {ng : Bool} {own : Str → Option Str} {s t : Bool} (ha : Ev wa env ra env1) (hb : Ev wb env1 rb env2) (pa : pkT env2 ra = some (da, s)) (pb : pkT env2 rb = some (db, t)) (h1 : isIns da = true → s = true ∧ t = true) (h2 : isIns db = true → t = true) (ht : top da db) (he : EqN own n da db b) :
    Ev (wEqX top ng own n wa wb) env (.sh (.bl (if ng then !b else b))) env2 := fun Q q => by
  refine ha _ (hb _ ?_)
  rw [pa, pb]
  exact ⟨h1, h2, ht, b, he, q⟩
theorem eqN_up {own : Str → Option Str} {m : Nat} (h : EqN own n da db b) (hm : n ≤ m) : EqN own m da db b := by
  induction hm with
  | refl => exact h
  | step _ ih => exact .inl ih
theorem Ev.eqI {own : Str → Option Str} (ha : Ev wa env (.sh (.int i)) env1) (hb : Ev wb env1 (.sh (.int j)) env2) : Ev (wEq own n wa wb) env (.sh (.bl (decide (i = j)))) env2 :=
  Ev.eqX (b := decide (i = j)) ha hb rfl rfl (fun h => nomatch h) (fun h => nomatch h) (fun v w hv hw => by cases hv; cases hw; rfl) (eqN_up (n := 0) ⟨_, _, rfl, rfl, (by first | rfl | (simp only [eqV]; exact (beq_eq_decide ..).symm) | (simp only [eqV]; rw [Bool.eq_iff_iff]; simp))⟩ (Nat.zero_le _))
theorem Ev.neI {own : Str → Option Str} (ha : Ev wa env (.sh (.int i)) env1) (hb : Ev wb env1 (.sh (.int j)) env2) : Ev (wNe own n wa wb) env (.sh (.bl (!decide (i = j)))) env2 :=
  Ev.eqX (b := decide (i = j)) ha hb rfl rfl (fun h => nomatch h) (fun h => nomatch h) ⟨(fun v w hv hw => by cases hv; cases hw; rfl), fun _ e => nomatch e⟩ (eqN_up (n := 0) ⟨_, _, rfl, rfl, (by first | rfl | (simp only [eqV]; exact (beq_eq_decide ..).symm) | (simp only [eqV]; rw [Bool.eq_iff_iff]; simp))⟩ (Nat.zero_le _))
theorem Ev.neS {own : Str → Option Str} (ha : Ev wa env (.sh (.str x)) env1) (hb : Ev wb env1 (.sh (.str y)) env2) : Ev (wNe own n wa wb) env (.sh (.bl (!decide (x = y)))) env2 :=
  Ev.eqX (b := decide (x = y)) ha hb rfl rfl (fun h => nomatch h) (fun h => nomatch h) ⟨(fun v w hv hw => by cases hv; cases hw; rfl), fun _ e => nomatch e⟩ (eqN_up (n := 0) ⟨_, _, rfl, rfl, (by first | rfl | (simp only [eqV]; exact (beq_eq_decide ..).symm) | (simp only [eqV]; rw [Bool.eq_iff_iff]; simp))⟩ (Nat.zero_le _))
/-- xs != [] -/
theorem Ev.neL0 {own : Str → Option Str} {xs : List D} {t : Bool} (ha : Ev wa env ra env1) (pa : pkT env1 ra = some (.lst xs, t)) : Ev (wNe own (n + 1) wa (wLst wNil)) env (.sh (.bl (!decide (xs = [])))) env1 :=
  Ev.eqX (b := decide (xs = [])) (s := t) ha (Ev.lst Av.nil fun _ q => q) pa rfl (fun h => nomatch h) (fun h => nomatch h) ⟨(fun v w hv hw => by cases hv), fun _ e => nomatch e⟩
    (eqN_up (n := 1) (.inr (.inl ⟨xs, [], rfl, rfl, by cases xs with | nil => exact .nil | cons a l => exact .r⟩)) (by omega))
theorem Ev.andT (ha : Ev wa env (.sh (.bl true)) env1) (hb : Ev wb env1 r env2) : Ev (wAndV wa wb) env r env2 := fun Q q => ha _ (hb _ q)
theorem Ev.andF (ha : Ev wa env (.sh (.bl false)) env1) : Ev (wAndV wa wb) env (.sh (.bl false)) env1 := fun Q q => ha _ q
theorem Ev.and (ha : Ev wa env (.sh (.bl b)) env) (hb : Ev wb env (.sh (.bl c)) env) : Ev (wAndV wa wb) env (.sh (.bl (b && c))) env := by
  cases b with
  | true => exact ha.andT hb
  | false => exact ha.andF
theorem Ev.not (ha : Ev wa env (.sh (.bl b)) env1) : Ev (wNotV wa) env (.sh (.bl (!b))) env1 := fun Q q => ha _ q
theorem Ev.ifT (ha : Tv wt env true env1) (h : Ev wa env1 r env2) : Ev (wIfE wt wa wb) env r env2 := fun Q q => ha _ (h _ q)
theorem Ev.ifF (ha : Tv wt env false env1) (h : Ev wb env1 r env2) : Ev (wIfE wt wa wb) env r env2 := fun Q q => ha _ (h _ q)
/-! ### tests -/
theorem Tv.bl (h : Ev we env (.sh (.bl b)) env1) : Tv (wBl we) env b env1 := fun Q q => h _ q
theorem Tv.not (h : Tv wt env b env1) : Tv (wNotT wt) env (!b) env1 := fun Q q => h _ q
theorem Tv.orT (h : Tv ta env true env1) : Tv (wOrT ta tb) env true env1 := fun Q q => h _ q
theorem Tv.orF (h : Tv ta env false env1) (h2 : Tv tb env1 b env2) : Tv (wOrT ta tb) env b env2 := fun Q q => h _ (h2 _ q)
theorem Tv.or (h : Tv ta env b env) (h2 : Tv tb env c env) : Tv (wOrT ta tb) env (b || c) env := by
  cases b with
  | true => exact h.orT
  | false => exact h.orF h2
theorem Tv.andT (h : Tv ta env true env1) (h2 : Tv tb env1 b env2) : Tv (wAndT ta tb) env b env2 := fun Q q => h _ (h2 _ q)
theorem Tv.andF (h : Tv ta env false env1) : Tv (wAndT ta tb) env false env1 := fun Q q => h _ q
theorem Tv.and (h : Tv ta env b env) (h2 : Tv tb env c env) : Tv (wAndT ta tb) env (b && c) env := by
  cases b with
  | true => exact h.andT h2
  | false => exact h.andF
/-! ### walks -/
theorem Iv.it {ds : List D} (h : Ev we env r env1) (hf : ∀ P : D → EnvD → Prop, P d env2 → fz r env1 P) (hi : itemsD d = some ds) : Iv (wIt we) env ds env2 := fun Q q => h _ (hf _ (by
  rw [hi]
  exact q))
theorem Iv.itS {ds : List D} (h : Ev we env (.sh d) env1) (hi : itemsD d = some ds) : Iv (wIt we) env ds env1 := Iv.it h (fun _ q => q) hi
theorem Iv.itF {ds : List D} (h : Ev we env (.fr d) env1) (hi : itemsD d = some ds) : Iv (wIt we) env ds env1 := Iv.it h (fun _ q => q) hi
/-! ### calls with one answer -/
theorem Ev.call {sem : Sem} {ms : List Bool} {Ed : XD → EnvD → Prop} {as : List Ar} (ha : Av wr env rs env1) (hz : ∀ P : List Ar → EnvD → Prop, P as env2 → fzm ms rs env1 P) (nd : (ixs as).Nodup) (ok : as.all (okA env2) = true)
    (hs : ∀ Q : R → EnvD → Prop, Q r env3 → sem (as.map (arSl env2)) (fun r args => outR (fun r e => Q r e) r (putBack env2 as args)) (fun x args => Ed x (putBack env2 as (args.take as.length)))) : Ev (wCall sem ms [] wr Ed) env r env3 := fun Q q => by
  refine ha _ (hz _ ?_)
  refine ⟨nd, ok, ?_⟩
  have z := hs Q q
  simpa using z
/-- one shared argument -/
theorem Ev.call1 {sem : Sem} {Ed : XD → EnvD → Prop} (ha : Ev we env (.sh d) env1) (hs : ∀ (Q : R → EnvD → Prop) (E : XD → EnvD → Prop), Q r [.im d] → sem [.im d] Q E) (hr : ∀ Q : R → EnvD → Prop, Q r env1 → outR (fun r e => Q r e) r env1) : Ev (wCall sem [false] [] (wCons we wNil) Ed) env r env1 := fun Q q => by
  refine ha _ ⟨List.nodup_nil, rfl, ?_⟩
  refine hs _ _ ?_
  exact hr Q q
end
end DL
namespace DL
open PySem PySem.Spec PyProof.Rows L2
/-! ### code that is never reached -/
def sNever : WS := fun _ _ => False
theorem ds_never {X : Cx} {G : Gh} {st : Stmt} : DS X G st sNever := PS.imp ps_never fun D σ H h => by
  obtain ⟨tmp, F, env, fp, Dd, S, h, k⟩ := h
  exact h.elim
/-! ### own classes made -/
/-- an own class whose __init__ keeps its promise (self and one more parameter, which may lack) -/
structure MkO (P : Program) (w : World) (K : PySem.W.Frag) (mg : Str → Option Value) (base : Heap) (k : Nat) (c kw : Str) (sem : Sem) (dflt : D) : Prop where
  gl : mg c = some (.ref (He.ga K c))
  ex : ∃ (f : Addr) (fd : FuncData) (ps : List Str), Mk K (He.ga K c) f ∧ FnOk P w K mg base (L2.CX P w) k f fd ps (spD K 2 sem) ∧ Binds K fd ps [] ∧ (∃ ds dvs, Binds K fd ps ds ∧ Vals dvs ds ∧ ∀ F H, Dats K F H [dflt] dvs) ∧ ∃ g, KBn K fd ps 1 [kw] g (fun vs zs => vs ++ zs)
section
variable {X : Cx} {G : Gh} {k n m : Nat} {c kw x : Str} {sem : Sem} {dflt : D} {p pos kpos : Pos} {e : Expr} {es : List Expr} {wr : WA} {we : WE} {E : XK} {Ed : XD → EnvD → Prop}
theorem de_mk1x (O : MkO X.prog X.w X.K X.mg X.base k c kw sem dflt) (hr : Room (k + 1) X.A) (hg : Gl X c) (hx : Passes (L2.CX X.prog X.w) X E) (hl : Link X.K G E Ed) (ha : DA X G (e :: es) 1 wr) (hdb : (c == ("__debug__" : Str)) = false := by decide)
    (he : starEach (e :: es) X.env = (false, eval e X.env) :: starEach es X.env := by rfl) (hpl : (backTo pos (starEach es X.env)).any (·.1) = false := by rfl) : DE X G (.Call (.Name c p) (e :: es) [] pos) (wMake c sem [false] [] wr Ed) := by
  obtain ⟨f, fd, ps, M, FN, b1, b0, bk⟩ := O.ex
  exact de_make M FN hr hg O.gl b1 .nil hx hl (fun _ _ => .nil) ha rfl hdb he hpl
theorem de_mk1 (O : MkO X.prog X.w X.K X.mg X.base k c kw sem dflt) (hr : Room (k + 1) X.A) (hg : Gl X c) (ha : DA X G (e :: es) 1 wr) (hdb : (c == ("__debug__" : Str)) = false := by decide)
    (he : starEach (e :: es) X.env = (false, eval e X.env) :: starEach es X.env := by rfl) (hpl : (backTo pos (starEach es X.env)).any (·.1) = false := by rfl) : DE X G (.Call (.Name c p) (e :: es) [] pos) (wMake c sem [false] [] wr fun _ _ => False) :=
  de_mk1x O hr hg pass0 link0 ha hdb he hpl
theorem de_mk0 (O : MkO X.prog X.w X.K X.mg X.base k c kw sem dflt) (hr : Room (k + 1) X.A) (hg : Gl X c) (hdb : (c == ("__debug__" : Str)) = false := by decide) : DE X G (.Call (.Name c p) [] [] pos) (wMake c sem [] [dflt] wNil fun _ _ => False) := by
  obtain ⟨f, fd, ps, M, FN, b1, ⟨ds, dvs, b0, rv, hd⟩, bk⟩ := O.ex
  exact de_make0 M FN hr hg O.gl b0 rv pass0 link0 hd rfl hdb
theorem de_mkKx (O : MkO X.prog X.w X.K X.mg X.base k c kw sem dflt) (hr : Room (k + 1) X.A) (hg : Gl X c) (hx : Passes (L2.CX X.prog X.w) X E) (hl : Link X.K G E Ed) (ha : DE X G e we) (hdb : (c == ("__debug__" : Str)) = false := by decide) :
    DE X G (.Call (.Name c p) [] [⟨some kw, e, kpos⟩] pos) (wMake c sem [false] [] (wCons we wNil) Ed) := by
  obtain ⟨f, fd, ps, M, FN, b1, b0, g, bk⟩ := O.ex
  exact de_makeK M FN hr hg O.gl bk hx hl (dk_one ha) rfl rfl rfl rfl hdb rfl
end
/-! ### sets of texts -/
theorem nodup_le {α : Type} [DecidableEq α] : ∀ {xs ys : List α}, xs.Nodup → (∀ x ∈ xs, x ∈ ys) → xs.length ≤ ys.length
  | [], _, _, _ => Nat.zero_le _
  | x :: xs, ys, nd, h => by
    obtain ⟨n1, n2⟩ := List.nodup_cons.mp nd
    have hx := h x List.mem_cons_self
    have := nodup_le (ys := ys.erase x) n2 fun z hz => by
      have hz2 := h z (List.mem_cons_of_mem _ hz)
      exact (List.mem_erase_of_ne (fun e : z = x => n1 (by rw [← e]; exact hz))).mpr hz2
    rw [List.length_erase_of_mem hx] at this
    have p : 0 < ys.length := List.length_pos_of_mem hx
    simp only [List.length_cons]
    omega
end DL
namespace DL
open PySem PySem.Spec PyProof.Rows L2
/-! ### ascending lists of texts -/
theorem cps_inj {x y : Str} (h : x.cps.toList = y.cps.toList) : x = y := by
  cases x; cases y
  simp only at h
  congr 1
  exact Array.toList_inj.mp h
theorem lt_trich : ∀ a b : List Nat, ltCps a b = false → ltCps b a = false → a = b
  | [], [], _, _ => rfl
  | [], _ :: _, h, _ => by cases h
  | _ :: _, [], _, h => by cases h
  | a :: r, b :: t, h1, h2 => by
    simp only [ltCps, Bool.or_eq_false_iff, decide_eq_false_iff_not, Bool.and_eq_false_iff, beq_eq_false_iff_ne] at h1 h2
    have e : a = b := by omega
    subst e
    rcases h1.2 with z | z
    · exact absurd rfl z
    rcases h2.2 with z2 | z2
    · exact absurd rfl z2
    rw [lt_trich r t z z2]
theorem lt_tr : ∀ a b c : List Nat, ltCps b a = false → ltCps c b = false → ltCps c a = false
  | [], _, [], _, _ => rfl
  | [], [], _ :: _, _, _ => rfl
  | [], _ :: _, _ :: _, _, _ => rfl
  | _ :: _, [], _, h, _ => by cases h
  | _ :: _, _ :: _, [], _, h => by cases h
  | a :: r, b :: t, c :: u, h1, h2 => by
    simp only [ltCps, Bool.or_eq_false_iff, decide_eq_false_iff_not, Bool.and_eq_false_iff, beq_eq_false_iff_ne] at h1 h2 ⊢
    refine ⟨by omega, ?_⟩
    by_cases e : c = a
    · have e1 : b = a := by omega
      have e2 : c = b := by omega
      right
      rcases h1.2 with z | z
      · exact absurd e1 z
      rcases h2.2 with z2 | z2
      · exact absurd e2 z2
      exact lt_tr r t u z z2
    · exact .inl e
theorem rising_all : ∀ (ss : List Str) (p : Str), risingS p ss = true → (∀ x ∈ ss, ltCps x.cps.toList p.cps.toList = false) ∧ sortedS ss = true
  | [], _, _ => ⟨fun _ h => (by cases h), rfl⟩
  | x :: ss, p, h => by
    unfold risingS at h
    simp only [Bool.and_eq_true, Bool.not_eq_true'] at h
    obtain ⟨h1, h2⟩ := h
    obtain ⟨h3, _⟩ := rising_all ss x h2
    refine ⟨fun y hy => ?_, h2⟩
    rcases List.mem_cons.mp hy with rfl | hy
    · exact h1
    · exact lt_tr _ _ _ h1 (h3 y hy)
theorem sorted_tail {x : Str} {ss : List Str} (h : sortedS (x :: ss) = true) : (∀ y ∈ ss, ltCps y.cps.toList x.cps.toList = false) ∧ sortedS ss = true := rising_all ss x h
/-- ascending without repeats: one list for one set -/
theorem sorted_one : ∀ {xs ys : List Str}, sortedS xs = true → sortedS ys = true → xs.Nodup → ys.Nodup → (∀ z, z ∈ xs ↔ z ∈ ys) → xs = ys
  | [], [], _, _, _, _, _ => rfl
  | [], y :: ys, _, _, _, _, h => by
    have := (h y).mpr List.mem_cons_self
    cases this
  | x :: xs, [], _, _, _, _, h => by
    have := (h x).mp List.mem_cons_self
    cases this
  | x :: xs, y :: ys, sx, sy, nx, ny, h => by
    obtain ⟨a1, a2⟩ := sorted_tail sx
    obtain ⟨b1, b2⟩ := sorted_tail sy
    obtain ⟨n1, n2⟩ := List.nodup_cons.mp nx
    obtain ⟨m1, m2⟩ := List.nodup_cons.mp ny
    have e : x = y := by
      rcases List.mem_cons.mp ((h x).mp List.mem_cons_self) with e | e
      · exact e
      · rcases List.mem_cons.mp ((h y).mpr List.mem_cons_self) with e2 | e2
        · exact e2.symm
        · exact cps_inj (lt_trich _ _ (b1 x e) (a1 y e2))
    subst e
    congr 1
    refine sorted_one a2 b2 n2 m2 fun z => ⟨fun hz => ?_, fun hz => ?_⟩
    · rcases List.mem_cons.mp ((h z).mp (List.mem_cons_of_mem _ hz)) with e | e
      · rw [e] at hz; exact absurd hz n1
      · exact e
    · rcases List.mem_cons.mp ((h z).mpr (List.mem_cons_of_mem _ hz)) with e | e
      · rw [e] at hz; exact absurd hz m1
      · exact e
end DL
namespace DL
open PySem PySem.Spec PyProof.Rows L2
/-! ### dicts as plain lists -/
/-- a dict of texts to whole numbers -/
def dK (ps : List (Str × Int)) : List (Key × D) := ps.map fun p => (.inr p.1, .int p.2)
def getP (ps : List (Str × Int)) (x : Str) : Option Int := (ps.find? fun p => decide (p.1 = x)).map (·.2)
def putP (ps : List (Str × Int)) (x : Str) (v : Int) : List (Str × Int) := if (ps.any fun p => decide (p.1 = x)) = true then ps.map fun p => if p.1 = x then (p.1, v) else p else ps ++ [(x, v)]
theorem vD_dK (ps : List (Str × Int)) (x : Str) : vD (dK ps) (.inr x) = (getP ps x).map D.int := by
  unfold vD getP dK
  induction ps with
  | nil => rfl
  | cons p ps ih =>
    simp only [List.map_cons, List.find?_cons]
    by_cases h : p.1 = x
    · simp [h]
    · have h2 : ¬ (Sum.inr p.1 : Key) = .inr x := fun e => h (Sum.inr.inj e)
      simp only [decide_eq_false h, decide_eq_false h2]
      exact ih
theorem putD_dK (ps : List (Str × Int)) (x : Str) (v : Int) : putD (dK ps) (.inr x) (.int v) = dK (putP ps x v) := by
  have ha : ((dK ps).any fun kv => decide (kv.1 = (.inr x : Key))) = ps.any fun p => decide (p.1 = x) := by
    unfold dK
    rw [List.any_map]
    congr 1
    funext p
    simp only [Function.comp]
    by_cases h : p.1 = x
    · simp [h]
    · rw [decide_eq_false h, decide_eq_false fun e => h (Sum.inr.inj e)]
  unfold putD putP
  rw [ha]
  split
  · unfold dK
    rw [List.map_map, List.map_map]
    congr 1
    funext p
    simp only [Function.comp]
    by_cases h : p.1 = x
    · simp [h]
    · rw [if_neg h, if_neg fun e => h (Sum.inr.inj e)]
  · simp [dK]
theorem keys_dK (ps : List (Str × Int)) : keysS (dK ps) = some (ps.map (·.1)) := by
  induction ps with
  | nil => rfl
  | cons p ps ih =>
    show (keysS (dK ps)).map (p.1 :: ·) = _
    rw [ih]
    rfl
theorem keysD_dK (ps : List (Str × Int)) : (dK ps).map (fun kv => keyD kv.1) = (ps.map (·.1)).map D.str := by
  unfold dK
  rw [List.map_map, List.map_map]
  rfl
theorem putP_keys (ps : List (Str × Int)) (x : Str) (v : Int) : (putP ps x v).map (·.1) = if x ∈ ps.map (·.1) then ps.map (·.1) else ps.map (·.1) ++ [x] := by
  have ha : (ps.any fun p => decide (p.1 = x)) = true ↔ x ∈ ps.map (·.1) := by
    rw [List.any_eq_true, List.mem_map]
    constructor
    · rintro ⟨p, h1, h2⟩
      exact ⟨p, h1, of_decide_eq_true h2⟩
    · rintro ⟨p, h1, h2⟩
      exact ⟨p, h1, decide_eq_true h2⟩
  unfold putP
  by_cases h : x ∈ ps.map (·.1)
  · rw [if_pos (ha.mpr h), if_pos h, List.map_map]
    congr 1
    funext p
    simp only [Function.comp]
    split <;> rfl
  · rw [if_neg fun z => h (ha.mp z), if_neg h, List.map_append]
    rfl
theorem putP_nodup {ps : List (Str × Int)} {x : Str} {v : Int} (h : (ps.map (·.1)).Nodup) : ((putP ps x v).map (·.1)).Nodup := by
  rw [putP_keys]
  split
  · exact h
  · rename_i n
    refine List.nodup_append.mpr ⟨h, List.nodup_cons.mpr ⟨fun z => (nomatch z), List.nodup_nil⟩, fun a ha b hb => ?_⟩
    rw [List.mem_singleton.mp hb]
    exact fun e => n (by rw [← e]; exact ha)
theorem putP_mem {ps : List (Str × Int)} {x y : Str} {v : Int} : y ∈ (putP ps x v).map (·.1) ↔ y ∈ ps.map (·.1) ∨ y = x := by
  rw [putP_keys]
  split
  · rename_i h
    exact ⟨.inl, fun z => z.elim id fun e => by rw [e]; exact h⟩
  · rw [List.mem_append, List.mem_singleton]
theorem putP_len {ps : List (Str × Int)} {x : Str} {v : Int} : (putP ps x v).length ≤ ps.length + 1 := by
  unfold putP
  split
  · rw [List.length_map]; omega
  · rw [List.length_append]; simp
theorem putP_val {ps : List (Str × Int)} {x : Str} {v : Int} {q : Str × Int} (h : q ∈ putP ps x v) : q = (x, v) ∨ q ∈ ps := by
  unfold putP at h
  split at h
  · obtain ⟨p, hp, e⟩ := List.mem_map.mp h
    split at e
    · rename_i hx
      rw [hx] at e
      exact .inl e.symm
    · rw [← e]
      exact .inr hp
  · rcases List.mem_append.mp h with h | h
    · exact .inr h
    · exact .inl (List.mem_singleton.mp h)
theorem getP_some {ps : List (Str × Int)} {x : Str} (h : x ∈ ps.map (·.1)) : ∃ v, getP ps x = some v ∧ (x, v) ∈ ps := by
  induction ps with
  | nil => cases h
  | cons p ps ih =>
    unfold getP
    rw [List.find?_cons]
    by_cases e : p.1 = x
    · rw [decide_eq_true e]
      exact ⟨p.2, rfl, by rw [← e]; exact List.mem_cons_self⟩
    · rw [decide_eq_false e]
      rcases List.mem_cons.mp h with z | z
      · exact absurd z.symm e
      · obtain ⟨v, h1, h2⟩ := ih z
        exact ⟨v, h1, List.mem_cons_of_mem _ h2⟩
theorem getP_mem {ps : List (Str × Int)} {x : Str} {v : Int} (h : getP ps x = some v) : (x, v) ∈ ps := by
  unfold getP at h
  obtain ⟨p, h1, h2⟩ := Option.map_eq_some_iff.mp h
  have e := of_decide_eq_true (List.find?_some (p := fun p : Str × Int => decide (p.1 = x)) h1)
  rw [← e, ← h2]
  exact List.mem_of_find?_eq_some h1
theorem getP_pair {ps : List (Str × Int)} (nd : (ps.map (·.1)).Nodup) : ∀ p ∈ ps, getP ps p.1 = some p.2 := by
  induction ps with
  | nil => intro p h; cases h
  | cons q ps ih =>
    intro p hp
    obtain ⟨n1, n2⟩ := List.nodup_cons.mp nd
    unfold getP
    rw [List.find?_cons]
    rcases List.mem_cons.mp hp with rfl | hp
    · rw [decide_eq_true rfl]
      rfl
    · have ne : ¬ q.1 = p.1 := fun e => n1 (by show q.1 ∈ _; rw [e]; exact List.mem_map_of_mem hp)
      rw [decide_eq_false ne]
      exact ih n2 p hp
/-! ### dicts that mark texts -/
def bK (ks : List Str) : List (Key × D) := ks.map fun k => (.inr k, .bl true)
def addK (ks : List Str) (x : Str) : List Str := if x ∈ ks then ks else ks ++ [x]
theorem putD_bK (ks : List Str) (x : Str) : putD (bK ks) (.inr x) (.bl true) = bK (addK ks x) := by
  have ha : ((bK ks).any fun kv => decide (kv.1 = (.inr x : Key))) = decide (x ∈ ks) := by
    unfold bK
    rw [List.any_map]
    induction ks with
    | nil => rfl
    | cons k ks ih =>
      rw [List.any_cons, ih]
      simp only [Function.comp]
      by_cases h : k = x
      · simp [h]
      · have h2 : ¬ (Sum.inr k : Key) = .inr x := fun e => h (Sum.inr.inj e)
        have h3 : ¬ x = k := fun e => h e.symm
        simp [h2, h3]
  unfold putD addK
  rw [ha]
  by_cases h : x ∈ ks
  · rw [if_pos (decide_eq_true h), if_pos h]
    unfold bK
    rw [List.map_map]
    congr 1
    funext k
    simp only [Function.comp]
    split <;> rfl
  · rw [if_neg (fun z => h (of_decide_eq_true z)), if_neg h]
    simp [bK]
theorem addK_nodup {ks : List Str} {x : Str} (h : ks.Nodup) : (addK ks x).Nodup := by
  unfold addK
  split
  · exact h
  · rename_i n
    refine List.nodup_append.mpr ⟨h, List.nodup_cons.mpr ⟨fun z => (nomatch z), List.nodup_nil⟩, fun a ha b hb => ?_⟩
    rw [List.mem_singleton.mp hb]
    exact fun e => n (by rw [← e]; exact ha)
theorem addK_mem {ks : List Str} {x y : Str} : y ∈ addK ks x ↔ y ∈ ks ∨ y = x := by
  unfold addK
  split
  · rename_i h
    exact ⟨.inl, fun z => z.elim id fun e => by rw [e]; exact h⟩
  · rw [List.mem_append, List.mem_singleton]
theorem addK_len {ks : List Str} {x : Str} : (addK ks x).length ≤ ks.length + 1 := by
  unfold addK
  split
  · omega
  · rw [List.length_append]; simp
theorem keys_bK (ks : List Str) : keysS (bK ks) = some ks := by
  induction ks with
  | nil => rfl
  | cons k ks ih =>
    show (keysS (bK ks)).map (k :: ·) = _
    rw [ih]
    rfl
theorem len_bK (ks : List Str) : (bK ks).length = ks.length := by simp [bK]
theorem len_dK (ps : List (Str × Int)) : (dK ps).length = ps.length := by simp [dK]
theorem small_line {n : Nat} (h : n ≤ 1000) : n < sizeLine := by rw [sizeLine_eq]; omega
end DL
namespace DL
open PySem PySem.Spec PyProof.Rows L2
/-! ### statements by their readings -/
section
variable {we wa wb wk wv wo : WE} {wt : WT} {wr : WA} {wi : WI} {wg : WG} {w1 w2 wbd : WS} {env env1 env2 env3 : EnvD} {r ra rb : R} {d da db : D} {b : Bool} {De : DEnds} {i j : Nat} {x : Str} {kvs : List (Key × D)} {xs : List D}
theorem seq_of (h : w1 env { De with nx := fun e => w2 e De }) : sSeq w1 w2 env De := h
theorem set_sh (h : Ev we env (.sh d) env1) (hi : i < env1.length) (q : De.nx (env1.set i (.im d))) : sSet i we env De := h _ ⟨hi, q⟩
theorem set_fr (h : Ev we env (.fr d) env1) (hi : i < env1.length) (q : De.nx (env1.set i (.ow d))) : sSet i we env De := h _ ⟨hi, q⟩
theorem set_br (h : Ev we env (.br j) env1) (hj : env1[j]? = some (.ow d)) (hi : i < env1.length) (q : De.nx ((env1.set j (.im d)).set i (.im d))) : sSet i we env De := h _ ⟨hi, by
  show (match env1[j]? with | some (.ow d) => De.nx ((env1.set j (.im d)).set i (.im d)) | _ => False)
  rw [hj]
  exact q⟩
theorem for_of {ds : List D} (h : Iv wi env ds env1) (q : forGo wg wbd ds env1 De) : sFor wi wg wbd env De := h _ q
theorem if_of (h : Tv wt env b env1) (q : if b = true then w1 env1 De else w2 env1 De) : sIf wt w1 w2 env De := h _ q
theorem if_T (h : Tv wt env true env1) (q : w1 env1 De) : sIf wt w1 w2 env De := h _ q
theorem if_F (h : Tv wt env false env1) (q : w2 env1 De) : sIf wt w1 w2 env De := h _ q
theorem ret_sh (h : Ev we env (.sh d) env1) (q : De.rt (.sh d) env1) : sRet we env De := h _ q
theorem ret_fr (h : Ev we env (.fr d) env1) (q : De.rt (.fr d) env1) : sRet we env De := h _ q
theorem ret_ow (h : Ev we env (.br i) env1) (hi : env1[i]? = some (.ow d)) (q : De.rt (.fr d) (env1.set i .un)) : sRet we env De := h _ (by
  show (match env1[i]? with | some (.ow d) => De.rt (.fr d) (env1.set i .un) | _ => False)
  rw [hi]
  exact q)
theorem put_key (hv : Ev wv env (.sh d) env1) (hk : Ev wk env1 (.sh (.str x)) env1) (hi : env1[i]? = some (.ow (.dct kvs))) (hl : kvs.length < sizeLine) (q : De.nx (env1.set i (.ow (.dct (putD kvs (.inr x) d))))) : sPut wv (wVar i) wk env De := by
  refine hv _ (Ev.varO hi _ (hk _ ?_))
  have hp : pk env1 (.br i) = some (.dct kvs) := by
    show (match env1[i]? with | some (.ow d) => some d | some (.pm d) => some d | _ => none) = _
    rw [hi]
  have hs : setD env1 i (.dct (putD kvs (.inr x) d)) = env1.set i (.ow (.dct (putD kvs (.inr x) d))) := by
    unfold setD
    rw [hi]
  show (match R.br i, pk env1 (.sh (.str x)) with
    | .br i, some key => (match pk env1 (.br i) with
      | some c => putAt c key d fun c' => De.nx (setD env1 i c')
      | none => False)
    | _, _ => False)
  show (match pk env1 (.br i) with
      | some c => putAt c (.str x) d fun c' => De.nx (setD env1 i c')
      | none => False)
  rw [hp]
  refine ⟨hl, ?_⟩
  show De.nx (setD env1 i (.dct (putD kvs (.inr x) d)))
  rw [hs]
  exact q
theorem app_to (ho : env[i]? = some (.ow (.lst xs))) (ha : Av wr env [.sh d] env1) (hi : env1[i]? = some (.ow (.lst xs))) (hl : xs.length < sizeLine) (q : De.nx (env1.set i (.ow (.lst (xs ++ [d]))))) : sDrop (wApp (wVar i) wr) env De := by
  have pk_ : ∀ {e : EnvD}, e[i]? = some (.ow (.lst xs)) → pk e (.br i) = some (.lst xs) := fun {e} h => by
    show (match e[i]? with | some (.ow d) => some d | some (.pm d) => some d | _ => none) = _
    rw [h]
  unfold sDrop wApp
  refine Ev.varO ho _ ?_
  refine ⟨⟨xs, pk_ ho⟩, ha _ ?_⟩
  show (match pk env1 (.br i) with
    | some (.lst xs) => xs.length < sizeLine ∧ De.nx (setD env1 i (.lst (xs ++ [d])))
    | _ => False)
  rw [pk_ hi]
  refine ⟨hl, ?_⟩
  unfold setD
  rw [hi]
  exact q
theorem fld_to {cs : List Str} {c f : Str} {fs : List (Str × D)} (h : Ev we env r env1) (hf : ∀ P : D → EnvD → Prop, P d env2 → fz r env1 P) (hi : env2[i]? = some (.pm (.ins c fs))) (hc : c ∈ cs) (hl : fs.length < 1000) (q : De.nx (env2.set i (.pm (.ins c (putFD f d fs))))) : sFldD cs i f we env De := by
  refine h _ (hf _ ?_)
  have hp : pk env2 (.br i) = some (.ins c fs) := by
    show (match env2[i]? with | some (.ow d) => some d | some (.pm d) => some d | _ => none) = _
    rw [hi]
  rw [hp]
  refine ⟨hc, hl, ?_⟩
  unfold setD
  rw [hi]
  exact q
/-! ### .. and what stands behind -/
theorem seq_set_sh (h : Ev we env (.sh d) env1) (hi : i < env1.length) (q : w2 (env1.set i (.im d)) De) : sSeq (sSet i we) w2 env De := h _ ⟨hi, q⟩
theorem seq_set_fr (h : Ev we env (.fr d) env1) (hi : i < env1.length) (q : w2 (env1.set i (.ow d)) De) : sSeq (sSet i we) w2 env De := h _ ⟨hi, q⟩
theorem seq_set_br (h : Ev we env (.br j) env1) (hj : env1[j]? = some (.ow d)) (hi : i < env1.length) (q : w2 ((env1.set j (.im d)).set i (.im d)) De) : sSeq (sSet i we) w2 env De := set_br (De := { De with nx := fun e => w2 e De }) h hj hi q
theorem seq_set_w (h : we env fun r env1 => setSl i r env1 fun e => w2 e De) : sSeq (sSet i we) w2 env De := h
theorem seq_for_w (h : wi env fun ds env1 => forGo wg wbd ds env1 { De with nx := fun e => w2 e De }) : sSeq (sFor wi wg wbd) w2 env De := h
theorem seq_for {ds : List D} (h : Iv wi env ds env1) (q : forGo wg wbd ds env1 { De with nx := fun e => w2 e De }) : sSeq (sFor wi wg wbd) w2 env De := h _ q
theorem seq_if_F {w3 : WS} (h : Tv wt env false env1) (q : w3 env1 De) : sSeq (sIf wt w1 sNext) w3 env De := h _ q
theorem seq_if_T {w3 : WS} (h : Tv wt env true env1) (q : w1 env1 { De with nx := fun e => w3 e De }) : sSeq (sIf wt w1 w2) w3 env De := h _ q
theorem seq_put (hv : Ev wv env (.sh d) env1) (hk : Ev wk env1 (.sh (.str x)) env1) (hi : env1[i]? = some (.ow (.dct kvs))) (hl : kvs.length < sizeLine) (q : w2 (env1.set i (.ow (.dct (putD kvs (.inr x) d)))) De) : sSeq (sPut wv (wVar i) wk) w2 env De := put_key (De := { De with nx := fun e => w2 e De }) hv hk hi hl q
theorem seq_fld {cs : List Str} {c f : Str} {fs : List (Str × D)} (h : Ev we env r env1) (hf : ∀ P : D → EnvD → Prop, P d env2 → fz r env1 P) (hi : env2[i]? = some (.pm (.ins c fs))) (hc : c ∈ cs) (hl : fs.length < 1000) (q : w2 (env2.set i (.pm (.ins c (putFD f d fs)))) De) : sSeq (sFldD cs i f we) w2 env De :=
  fld_to (De := { De with nx := fun e => w2 e De }) h hf hi hc hl q
/-! ### expressions -/
theorem Ev.get2 {ps : List (Str × Int)} {z : Int} (ho : Ev wo env ra env1) (p : pk env1 ra = some (.dct (dK ps))) (hk : Ev wk env1 (.sh (.str x)) env1) (hd : Ev wv env1 (.sh (.int z)) env1) : Ev (wGet2 wo wk wv) env (.sh (.int ((getP ps x).getD z))) env1 := fun Q q => by
  refine ho _ ⟨⟨_, p⟩, hk _ (hd _ ?_)⟩
  rw [p]
  show Q (.sh ((vD (dK ps) (.inr x)).getD (.int z))) env1
  rw [vD_dK]
  cases h : getP ps x with
  | none => rw [h] at q; exact q
  | some v => rw [h] at q; exact q
theorem Ev.ixD {ps : List (Str × Int)} {z : Int} (ha : Ev wa env ra env1) (p : pk env1 ra = some (.dct (dK ps))) (hb : Ev wb env1 (.sh (.str x)) env1) (h : getP ps x = some z) : Ev (wB fIx wa wb) env (.sh (.int z)) env1 := Ev.B ha hb p rfl fun Q q => by
  show (match vD (dK ps) (.inr x) with | some d => Q (.sh d) | none => False)
  rw [vD_dK, h]
  exact q
theorem Ev.gtI {m n : Int} (ha : Ev wa env (.sh (.int m)) env1) (hb : Ev wb env1 (.sh (.int n)) env2) : Ev (wB fGt wa wb) env (.sh (.bl (decide (n < m)))) env2 := Ev.B ha hb rfl rfl fun _ q => q
theorem Ev.fld {cs : List Str} {c f : Str} {fs : List (Str × D)} (h : Ev we env r env1) (p : pk env1 r = some (.ins c fs)) (hc : c ∈ cs) (hf : fs.lookup f = some d) : Ev (wFld cs f we) env (.sh d) env1 := fun Q q => by
  refine h _ ?_
  rw [p]
  refine ⟨hc, ?_⟩
  rw [hf]
  exact q
theorem Ev.tuL {ds : List D} (ha : Ev wa env ra env1) (p : pk env1 ra.hold = some (.lst ds)) : Ev (wCB fTuple (wCons wa wNil)) env (.sh (.tup ds)) env1 := Ev.cb (rs := [ra.hold]) (Av.cons ha Av.nil) (ds := [.lst ds]) (by simp [pks, p]) fun Q q => q
theorem Ev.tuT {ds : List D} (ha : Ev wa env ra env1) (p : pk env1 ra.hold = some (.tup ds)) : Ev (wCB fTuple (wCons wa wNil)) env (.sh (.tup ds)) env1 := Ev.cb (rs := [ra.hold]) (Av.cons ha Av.nil) (ds := [.tup ds]) (by simp [pks, p]) fun Q q => q
end
/-! ### comprehensions that leave the names -/
section
variable {wi : WI} {wg : WG} {wt : WT} {we : WE} {vs : List Nat} {env env1 : EnvD} {f : D → D} {c : D → Bool}
theorem lcGo_mf {Q : List D → EnvD → Prop} : ∀ (ds acc : List D), acc.length + ds.length < sizeLine → (∀ d ∈ ds, ∀ P : EnvD → Prop, (∀ env2, (∀ Pt : Bool → EnvD → Prop, Pt (c d) env2 → wt env2 Pt) → (c d = true → ∀ Pe : R → EnvD → Prop, Pe (.sh (f d)) env2 → we env2 Pe) → wipeE env2 vs = env → P env2) → wg d env P) →
    Q (acc ++ (ds.filter c).map f) env → lcGo wg wt we vs ds acc env Q
  | [], acc, _, _, q => by simpa [lcGo] using q
  | d :: ds, acc, hl, h, q => by
    simp only [List.length_cons] at hl
    show wg d env fun env1 => wt env1 fun b env2 => if b = true then we env2 fun r env3 => fz r env3 fun x env4 => acc.length < sizeLine ∧ lcGo wg wt we vs ds (acc ++ [x]) (wipeE env4 vs) Q else lcGo wg wt we vs ds acc (wipeE env2 vs) Q
    refine h d List.mem_cons_self _ fun env2 ht he hw => ht _ ?_
    cases hc : c d with
    | false =>
      rw [if_neg Bool.false_ne_true, hw]
      rw [List.filter_cons_of_neg (by simp [hc])] at q
      exact lcGo_mf ds acc (by omega) (fun z hz => h z (List.mem_cons_of_mem _ hz)) q
    | true =>
      rw [if_pos rfl]
      refine he hc _ ?_
      show acc.length < sizeLine ∧ lcGo wg wt we vs ds (acc ++ [f d]) (wipeE env2 vs) Q
      rw [hw]
      rw [List.filter_cons_of_pos hc] at q
      exact ⟨by omega, lcGo_mf ds _ (by simp; omega) (fun z hz => h z (List.mem_cons_of_mem _ hz)) (by simpa using q)⟩
/-- one name -/
theorem Ev.lc1 {k : Nat} {ds : List D} (hi : Iv wi env ds env1) (hk : env1[k]? = some .un) (hl : ds.length < sizeLine) (ht : ∀ d ∈ ds, Tv wt (env1.set k (.im d)) (c d) (env1.set k (.im d))) (he : ∀ d ∈ ds, c d = true → Ev we (env1.set k (.im d)) (.sh (f d)) (env1.set k (.im d))) :
    Ev (wLc wi (gN k) wt we [k]) env (.fr (.lst ((ds.filter c).map f))) env1 := fun Q q => by
  have lt : k < env1.length := (List.getElem?_eq_some_iff.mp hk).1
  have ew : wipeE env1 [k] = env1 := by
    have e : env1[k] = .un := (List.getElem?_eq_some_iff.mp hk).2
    show env1.set k .un = env1
    rw [← e, List.set_getElem_self]
  have ok : okW env1 [k] := ⟨List.nodup_cons.mpr ⟨fun h => (nomatch h), List.nodup_nil⟩, fun v hv => by rw [List.mem_singleton.mp hv]; exact ⟨lt, .inl hk⟩⟩
  refine hi _ ⟨ok, ?_⟩
  rw [ew]
  refine lcGo_mf (c := c) (f := f) ds [] (by simpa using hl) (fun d hd P hP => ⟨lt, hP _ (ht d hd) (fun hc => he d hd hc) ?_⟩) ?_
  · show (env1.set k (.im d)).set k .un = env1
    rw [List.set_set]
    exact ew
  · refine ⟨rfl, ?_⟩
    have u := unw_wipe ok
    rw [ew] at u
    rw [u]
    simpa using q
end
end DL
namespace DL
open PySem PySem.Spec PyProof.Rows L2
section
variable {we wk wv wa wb : WE} {wt : WT} {wr : WA} {env env1 env2 : EnvD} {r : R} {d : D} {k i : Nat} {kvs : List (Key × D)} {zs : List Str}
/-- sorted(d) -/
theorem cb_sorted {Q : R → EnvD → Prop} (h : Ev we env r env1) (p : pk env1 r.hold = some (.dct kvs)) (hk : keysS kvs = some zs) (hl : zs.length < 64) (q : ∀ ys : List Str, ys.Perm zs → sortedS ys = true → Q (.fr (.lst (ys.map D.str))) env1) : wCB fSorted (wCons we wNil) env Q := by
  refine Av.cons h Av.nil _ ?_
  show (match pks env1 [r.hold] with | some ds => fSorted ds fun r => Q r env1 | none => False)
  have e : pks env1 [r.hold] = some [.dct kvs] := by simp [pks, p]
  rw [e]
  exact ⟨zs, hk, hl, q⟩
/-- for x in sorted(d) -/
theorem it_sorted {Q : List D → EnvD → Prop} (h : Ev we env r env1) (p : pk env1 r.hold = some (.dct kvs)) (hk : keysS kvs = some zs) (hl : zs.length < 64) (q : ∀ ys : List Str, ys.Perm zs → sortedS ys = true → Q (ys.map D.str) env1) : wIt (wCB fSorted (wCons we wNil)) env Q :=
  cb_sorted h p hk hl fun ys h1 h2 => q ys h1 h2
theorem okW1 (h : env[k]? = some .un ∨ ∃ d, env[k]? = some (.im d)) : okW env [k] := by
  refine ⟨List.nodup_cons.mpr ⟨fun h => (nomatch h), List.nodup_nil⟩, fun v hv => ?_⟩
  rw [List.mem_singleton.mp hv]
  refine ⟨?_, h⟩
  rcases h with h | ⟨d, h⟩
  · exact (List.getElem?_eq_some_iff.mp h).1
  · exact (List.getElem?_eq_some_iff.mp h).1
/-- {x: f(x) for x in ..} -/
theorem dcGo_str {f : Str → Int} {Q : List (Key × D) → EnvD → Prop} (hu : env[k]? = some .un) : ∀ (ys : List Str) (acc : List (Str × Int)), (acc.map (·.1) ++ ys).Nodup → acc.length + ys.length < 1000 →
    (∀ y ∈ ys, Tv wt (env.set k (.im (.str y))) true (env.set k (.im (.str y))) ∧ Ev wk (env.set k (.im (.str y))) (.sh (.str y)) (env.set k (.im (.str y))) ∧ Ev wv (env.set k (.im (.str y))) (.sh (.int (f y))) (env.set k (.im (.str y)))) →
    Q (dK (acc ++ ys.map fun y => (y, f y))) env → dcGo (gN k) wt wk wv [k] (ys.map D.str) (dK acc) env Q
  | [], acc, _, _, _, q => by simpa [dcGo] using q
  | y :: ys, acc, nd, hl, h, q => by
    obtain ⟨h1, h2, h3⟩ := h y List.mem_cons_self
    have lt : k < env.length := (List.getElem?_eq_some_iff.mp hu).1
    simp only [List.length_cons] at hl
    refine ⟨lt, h1 _ ?_⟩
    refine h2 _ (h3 _ ?_)
    refine ⟨by rw [len_dK]; exact small_line (by omega), ?_⟩
    rw [putD_dK]
    have ny : y ∉ acc.map (·.1) := fun z => (List.nodup_append.mp nd).2.2 y z y List.mem_cons_self rfl
    have ep : putP acc y (f y) = acc ++ [(y, f y)] := by
      unfold putP
      rw [if_neg]
      intro z
      obtain ⟨p, hp, e⟩ := List.any_eq_true.mp z
      exact ny (by rw [← of_decide_eq_true e]; exact List.mem_map_of_mem hp)
    have ew : wipeE (env.set k (.im (.str y))) [k] = env := by
      show (env.set k (.im (.str y))).set k .un = env
      rw [List.set_set]
      have e : env[k] = .un := (List.getElem?_eq_some_iff.mp hu).2
      rw [← e, List.set_getElem_self]
    rw [ep, ew]
    refine dcGo_str hu ys (acc ++ [(y, f y)]) ?_ (by simp; omega) (fun z hz => h z (List.mem_cons_of_mem _ hz)) ?_
    · rw [List.map_append, List.append_assoc]
      exact nd
    · rw [List.append_assoc]
      exact q
theorem wipe1 (hu : env[k]? = some .un ∨ ∃ d, env[k]? = some (.im d)) : (wipeE env [k])[k]? = some .un := by
  have lt : k < env.length := (okW1 hu).2 k (List.mem_singleton.mpr rfl) |>.1
  show (env.set k .un)[k]? = some .un
  exact List.getElem?_set_self lt
/-- all(..) of truths -/
theorem Ev.all {ds : List D} {bs : List Bool} (h : Ev we env (.fr (.lst ds)) env1) (hb : blsD ds = some bs) : Ev (wCB fAll (wCons we wNil)) env (.sh (.bl (bs.all id))) env1 := Ev.cb (rs := [.sh (.lst ds)]) (ds := [.lst ds]) (.fr h .nil) rfl fun Q q => by
  unfold fAll
  dsimp only
  rw [hb]
  exact q
theorem blsD_true {α : Type} {xs : List α} {g : α → D} (h : ∀ x ∈ xs, g x = .bl true) : ∃ bs, blsD (xs.map g) = some bs ∧ bs.all id = true := by
  induction xs with
  | nil => exact ⟨[], rfl, rfl⟩
  | cons x xs ih =>
    obtain ⟨bs, h1, h2⟩ := ih fun y hy => h y (List.mem_cons_of_mem _ hy)
    refine ⟨true :: bs, ?_, by simpa using h2⟩
    rw [List.map_cons, h x List.mem_cons_self]
    show (blsD (xs.map g)).map (true :: ·) = _
    rw [h1]
    rfl
theorem perm_pairs {ps : List (Str × Int)} {ys : List Str} (nd : (ps.map (·.1)).Nodup) (hp : ys.Perm (ps.map (·.1))) : (ys.map fun y => (y, (getP ps y).getD 0)).Perm ps := by
  have e : (ps.map (·.1)).map (fun y => (y, (getP ps y).getD 0)) = ps := by
    rw [List.map_map]
    have : ∀ p ∈ ps, ((fun y => (y, (getP ps y).getD 0)) ∘ (·.1)) p = p := fun p hp => by
      simp only [Function.comp]
      rw [getP_pair nd p hp]
      rfl
    rw [List.map_congr_left this, List.map_id']
  have h := hp.map fun y => (y, (getP ps y).getD 0)
  rw [e] at h
  exact h
end
end DL
namespace DL
open PySem PySem.Spec PyProof.Rows L2
/-! ### the law's own start -/
/-- nothing is to be kept -/
def lawGh (T : List (Addr × Str)) : Gh := ⟨fun _ => none, fun _ => False, [], T, []⟩
theorem lawGh_lam (T : List (Addr × Str)) : LamG (lawGh T) := ⟨fun a ps h => (by cases h), fun a h => (by cases h)⟩
theorem tabs_empty {T : List (Addr × Str)} {H : Hp} (h : ∀ p ∈ T, H p.1 = some (.tbl #[])) : LamX.Tabs T H := fun p hp => ⟨#[], h p hp, trivial, fun pos cv e => by cases e⟩
theorem SR.law {K : PySem.W.Frag} {T : List (Addr × Str)} {σ : St} {H : Hp} {n : Nat} (hl : σ.length = n) (hT : ∀ p ∈ T, H p.1 = some (.tbl #[])) : SR K (lawGh T) [] (fun _ => False) σ H (uns n) (fun _ => []) := by
  have un_ : ∀ {i : Nat} {s : Sl}, (uns n)[i]? = some s → s = .un ∧ i < n := fun {i s} h => by
    unfold uns at h
    rw [List.getElem?_replicate] at h
    split at h
    · rename_i hi
      cases h
      exact ⟨rfl, hi⟩
    · cases h
  refine ⟨by simp [uns, hl], fun i s h => ?_, fun i j a h => (by cases h), fun i a h => (by cases h), fun i a h => (by cases h), fun i d h a ha => (by cases ha), fun i a h => (by cases h), fun p hp => (by cases hp), fun a h => h.elim, fun a o h => (by cases h), fun a h => h.elim, fun a h => h.elim, tabs_empty hT, fun a h => (by cases h), fun i s h p l => ?_, Nat.zero_le _, fun p hp => (by cases hp)⟩
  · obtain ⟨rfl, hi⟩ := un_ h
    exact ⟨σ[i], List.getElem?_eq_getElem (by rw [hl]; exact hi), rfl⟩
  · exact absurd l (Nat.not_lt_zero _)
/-- what is asked of the law at a script -/
def spLaw (K : PySem.W.Frag) (T : List (Addr × Str)) : Sp := fun vs H Q _ => ∃ a ns, vs = [.ref a] ∧ SqL K H a ((ns : List Int).map V.int) ∧ ns.length ≤ 1000 ∧ (∀ p ∈ T, H p.1 = some (.tbl #[])) ∧ ∀ H', Q (.bl true) H'
section
variable {P : Program} {w : World} {K : PySem.W.Frag} {mg : Str → Option Value} {base : Heap} {x qual : Str} {params : Arguments} {body : List Stmt} {scope : Scope} {dvs : List V} {kws : List (Str × V)} {fd : FuncData} {N ps : List Str} {k n : Nat}
/-- a def promised while no repr is under way, its code object known -/
theorem fnG_code {f : Addr} {sp : Sp} {CX : CXT} {p : He.Defn} (hf : f = He.fAd K p) (fn : FunD K x qual params body scope dvs kws f fd) (sc : FnScope N ps scope) (lens : ∀ vs H Q E, sp vs H Q E → vs.length = ps.length)
    (run : ∀ (A : Around) (out : List Env) (s : Shared) (H : Hp) (vs : List V) (Q : VK) (E : XK), A.guards = some [] → Room k (A.deeper (envOfC qual scope s.heap.objs.size f (.ref (He.codeOf K p)))) → sp vs H Q E →
      ∃ t, PSs (cxOf CX P w K mg base N qual scope f (.ref (He.codeOf K p)) A out s H E) body t ∧ t { nx := fun _ H' => Q .non H', rt := Q } (L2.start N vs) H) : FnG P w K mg base CX (k + 1) f fd ps sp := by
  obtain ⟨_, _, _, _, _, _, _, cdv, _, _, rfl, at_, code_, _, _⟩ := fn.ex
  obtain ⟨c, rfl⟩ := He.codeIn_ref code_
  have e : He.codeOf K p = c := He.codeOf_eq (by rw [← hf]; exact at_) rfl
  rw [e] at run
  exact ⟨lens, fun A out s H args us vs Q E gd hr e0 hb rv q => LamX.run_ofS at_ code_ sc hr e0 hb rv (lens _ _ _ _ q) fun hr' => run A out s H vs Q E gd hr' q⟩
/-- the law: its state is begun, then the rest over data -/
theorem law_run {X : Cx} {T : List (Addr × Str)} {st : Stmt} {rest : List Stmt} {wr : WS} {i : Nat} {vs : List V} {H : Hp} {Q : VK} {E : XK} (h0 : PS X st (tAsg (tCall (spBegun X.K) [] E0 (tCons (tVar 0) tNil)) (gName i))) (hr : DSs X (lawGh T) rest wr) (hN : 2 ≤ X.N.length) (hi : i < X.N.length) (h1 : vs.length = 1)
    (q : spLaw X.K T vs H Q E) (hw : wr ((uns X.N.length).set i (.st 1000000000)) ⟨fun _ => False, fun r _ => r = .sh (.bl true), fun _ => False, fun _ => False⟩) :
    ∃ t, PSs X (st :: rest) t ∧ t { nx := fun _ H' => Q .non H', rt := Q } (L2.start X.N vs) H := by
  obtain ⟨a, ns, rfl, hs, hl, hT, hQ⟩ := q
  refine ⟨_, pss_cons h0 hr, ?_⟩
  have l0 : (L2.start X.N [V.ref a]).length = X.N.length := by
    unfold L2.start
    simp
    omega
  have S : SR X.K (lawGh T) [] (fun _ => False) (L2.start X.N [V.ref a]) H (uns X.N.length) (fun _ => []) := SR.law l0 hT
  refine ⟨.ref a, rfl, a, ns, rfl, hs, hl, fun H' p g c fr sa => ?_⟩
  obtain ⟨F', fp', S', e'⟩ := S.begin (i := i) fr sa (by simpa [uns] using hi) (Nat.zero_le _)
  refine ⟨[], F', _, fp', _, S', hw, ⟨fun _ _ _ _ _ _ _ z => z.elim, fun r env' σ' v H2 F2 fp2 _ S2 rv z => ?_, fun _ _ _ _ _ _ _ z => z.elim, fun _ _ _ _ _ _ _ z => z.elim⟩⟩
  subst z
  have rv : Dat X.K F2 H2 (.bl true) v := rv
  cases rv
  exact hQ H2
end
end DL
namespace DL
open PySem PySem.Spec PyProof.Rows L2
open C8 (InsC)
/-! ### facts of the head that are decided -/
section
variable {K : PySem.W.Frag}
theorem b2 {a b : Bool} (h : (a && b) = true) : a = true ∧ b = true := Bool.and_eq_true_iff.mp h
def clsB (K : PySem.W.Frag) (c : Str) : Bool := (He.Fa.cls c).ok K
def insB (K : PySem.W.Frag) (c : Str) : Bool := clsB K c && (decide (PySem.W.findIn K (.ref (He.ga K c)) "__class__" = some (some (.builtin "object.__class__"))) && (decide (PySem.W.specialIn K (.builtin "object.__class__") "__get__" = some (some (.builtin "getset_descriptor.__get__"))) &&
  (decide (PySem.W.takesIn K (.builtin "object.__class__") = some true) && (decide (PySem.W.mroIn K (He.ga K c) (.type "object") = some true) && decide (PySem.W.kitOne K (.ref (He.ga K c)) (.ref (He.ga K c)) = some true)))))
theorem insB_ok {c : Str} (h : insB K c = true) : InsC K (He.ga K c) := by
  obtain ⟨h1, h⟩ := b2 h
  obtain ⟨h2, h⟩ := b2 h
  obtain ⟨h3, h⟩ := b2 h
  obtain ⟨h4, h⟩ := b2 h
  obtain ⟨h5, h6⟩ := b2 h
  exact ⟨He.cls_ok h1, of_decide_eq_true h2, of_decide_eq_true h3, of_decide_eq_true h4, of_decide_eq_true h5, of_decide_eq_true h6⟩
/-- isinstance against us -/
def isfB (K : PySem.W.Frag) (us : List Value) (tab : String → Bool) (own : List (Str × Bool)) : Bool := (kinds.all fun k => decide (PySem.W.kitAny K (.type k) us = some (tab k))) && own.all fun q => insB K q.1 && decide (PySem.W.kitAny K (.ref (He.ga K q.1)) us = some q.2)
theorem lookup_in {α : Type} {c : Str} {r : α} : ∀ {l : List (Str × α)}, l.lookup c = some r → (c, r) ∈ l
  | [], h => by cases h
  | (d, s) :: l, h => by
    rw [List.lookup_cons] at h
    cases q : c == d with
    | true =>
      rw [q] at h
      cases h
      rw [beq_iff_eq.mp q]
      exact List.mem_cons_self
    | false =>
      rw [q] at h
      exact List.mem_cons_of_mem _ (lookup_in h)
theorem isfB_ok {us : List Value} {tab : String → Bool} {own : List (Str × Bool)} (h : isfB K us tab own = true) : IsF K us tab (ownT own) := by
  obtain ⟨h1, h2⟩ := b2 h
  refine ⟨fun k hk => of_decide_eq_true (List.all_eq_true.mp h1 k hk), fun c r hc => ?_⟩
  obtain ⟨h3, h4⟩ := b2 (List.all_eq_true.mp h2 (c, r) (lookup_in hc))
  exact ⟨insB_ok h3, of_decide_eq_true h4⟩
/-- an own exception class -/
def oexB (K : PySem.W.Frag) (c : Str) : Bool := (match K.lookup (He.ga K c) with
  | some ⟨.type t, _, .cls cd, sl⟩ => decide (t = "type") && (match cd.mro, sl.toList with
    | .ref C' :: bm, [_, _, _, _, some (.builtin n), _] => decide (C' = He.ga K c) && (decide (n = "ValueError.__new__") && (!cd.hasDel && (cd.hasDict && PySem.HandSPX.refsVE bm)))
    | _, _ => false)
  | _ => false) && (decide (PySem.W.findIn K (.ref (He.ga K c)) "__setattr__" = some (some (.builtin "object.__setattr__"))) && (decide (PySem.W.subIn K (.ref (He.ga K c)) (.type "BaseException") = some true) &&
    (decide (PySem.W.typeIn K (.ref (He.ga K c)) = some (.type "type")) && PySem.W.keepIn K (.ref (He.ga K c)))))
theorem oexB_ok {c : Str} (h : oexB K c = true) : OexC K (He.ga K c) := by
  obtain ⟨h1, h⟩ := b2 h
  obtain ⟨h2, h⟩ := b2 h
  obtain ⟨h3, h⟩ := b2 h
  obtain ⟨h4, h5⟩ := b2 h
  refine ⟨?_, of_decide_eq_true h2, of_decide_eq_true h3, of_decide_eq_true h4, h5⟩
  split at h1
  · rename_i t dd cd sl ho
    obtain ⟨ht, h1⟩ := b2 h1
    have ht := of_decide_eq_true ht
    split at h1
    · rename_i C' bm k0 k1 k2 k3 n k5 hm hs
      obtain ⟨q1, h1⟩ := b2 h1
      obtain ⟨q2, h1⟩ := b2 h1
      obtain ⟨q3, h1⟩ := b2 h1
      obtain ⟨q4, q5⟩ := b2 h1
      have q1 := of_decide_eq_true q1
      have q2 := of_decide_eq_true q2
      obtain ⟨nm, bs, mro, ns, qn, hd, sn, sub, ab, col, del⟩ := cd
      dsimp only at hm q3 q4
      have q3 : del = false := by simpa using q3
      subst hm q3 q4 q2 ht
      have hsl : sl = #[k0, k1, k2, k3, some (.builtin "ValueError.__new__"), k5] := by
        obtain ⟨l⟩ := sl
        simp only at hs
        rw [hs]
      subst hsl
      rw [q1] at ho
      exact ⟨nm, qn, ns, bs, bm, sn, sub, ab, col, dd, k0, k1, k2, k3, k5, ho, q5⟩
    · cases h1
  · cases h1
/-- the class above it -/
def baseB (K : PySem.W.Frag) (c : Str) : Bool := decide (PySem.W.specialIn K (.ref (He.ga K c)) "__getattribute__" = some (some (.builtin "type.__getattribute__"))) && (PySem.W.readsIn K (He.ga K c) (.type "type") && (decide (PySem.W.typeIn K (.ref (He.ga K c)) = some (.type "type")) &&
  (match PySem.W.findCls K (.ref (He.ga K c)) (.type "type") "__init__" with
    | some (.val (.builtin s)) => decide (s = "ValueError.__init__")
    | _ => false)))
theorem baseB_ok {c : Str} (h : baseB K c = true) : BaseC K (He.ga K c) := by
  obtain ⟨h1, h⟩ := b2 h
  obtain ⟨h2, h⟩ := b2 h
  obtain ⟨h3, h4⟩ := b2 h
  refine ⟨of_decide_eq_true h1, h2, of_decide_eq_true h3, ?_⟩
  split at h4
  · rename_i s e
    rw [e, of_decide_eq_true h4]
  · cases h4
/-- a held exception asked and read -/
def excB (K : PySem.W.Frag) (c : Str) : Bool := decide (PySem.W.findIn K (.ref (He.ga K c)) "__getattribute__" = some (some (.builtin "BaseException.__getattribute__"))) && (decide (PySem.W.findIn K (.ref (He.ga K c)) "__getattr__" = some none) && (decide (PySem.W.subIn K (.ref (He.ga K c)) (.type "BaseException") = some true) && (PySem.W.hasDictIn K (He.ga K c) &&
  (decide (PySem.W.findIn K (.ref (He.ga K c)) "__class__" = some (some (.builtin "object.__class__"))) && (decide (PySem.W.specialIn K (.builtin "object.__class__") "__get__" = some (some (.builtin "getset_descriptor.__get__"))) && (decide (PySem.W.takesIn K (.builtin "object.__class__") = some true) && decide (PySem.W.mroIn K (He.ga K c) (.type "object") = some true)))))))
theorem excB_ok {c : Str} (h : excB K c = true) : ExcC K (He.ga K c) ∧ XfC K (He.ga K c) := by
  obtain ⟨h1, h⟩ := b2 h
  obtain ⟨h2, h⟩ := b2 h
  obtain ⟨h3, h⟩ := b2 h
  obtain ⟨h4, h⟩ := b2 h
  obtain ⟨h5, h⟩ := b2 h
  obtain ⟨h6, h⟩ := b2 h
  obtain ⟨h7, h8⟩ := b2 h
  exact ⟨⟨of_decide_eq_true h1, of_decide_eq_true h2, of_decide_eq_true h3, h4, of_decide_eq_true h5, of_decide_eq_true h6, of_decide_eq_true h7, of_decide_eq_true h8⟩, ⟨of_decide_eq_true h1, of_decide_eq_true h2, of_decide_eq_true h3, h4⟩⟩
/-- == of an own class (its __eq__ is a fact Fa.meth) -/
def eqB (K : PySem.W.Frag) (c : Str) : Bool := (kinds.all fun t => PySem.W.notFirst K (He.ga K c) (.type t)) && (decide (PySem.W.findIn K (.ref (He.ga K c)) "__ne__" = some (some (.builtin "object.__ne__"))) && decide (PySem.W.mroIn K (He.ga K c) (.type "object") = some true))
theorem eqB_ok {c : Str} (h : eqB K c = true) : (∀ t ∈ kinds, PySem.W.notFirst K (He.ga K c) (.type t) = true) ∧ PySem.W.findIn K (.ref (He.ga K c)) "__ne__" = some (some (.builtin "object.__ne__")) ∧ PySem.W.mroIn K (He.ga K c) (.type "object") = some true := by
  obtain ⟨h1, h⟩ := b2 h
  obtain ⟨h2, h3⟩ := b2 h
  exact ⟨List.all_eq_true.mp h1, of_decide_eq_true h2, of_decide_eq_true h3⟩
/-- the empty tuple that stands as a default -/
def tup0B (K : PySem.W.Frag) (a : Addr) : Bool := match K.lookup a with
  | some ⟨.type t, _, .seq its _, _⟩ => decide (t = "tuple") && its.isEmpty
  | _ => false
theorem tup0B_ok {a : Addr} (h : tup0B K a = true) (F : Addr → Prop) (H : Hp) : Dat K F H (.tup []) (.ref a) := by
  unfold tup0B at h
  split at h
  · rename_i t dd its n sl e
    obtain ⟨h1, h2⟩ := b2 h
    have h1 := of_decide_eq_true h1
    have e2 : its = #[] := Array.isEmpty_iff.mp h2
    subst h1 e2
    exact .tupK (vs := []) e rfl rfl (Nat.zero_le _) .nil .nil
  · cases h
/-! ### properties -/
/-- the getter of C's property m -/
def gf (K : PySem.W.Frag) (c m : Str) : Addr := match PySem.W.recIn K (He.ma K (He.ga K c) m) "property" with
  | some (.ref g :: _) => g
  | _ => 0
structure GetD where
  c : Str
  m : Str
  qual : Str
  params : Arguments
  body : List Stmt
  scope : Scope
def fnAt (K : PySem.W.Frag) (a : Addr) : He.FnW := match K.lookup a with
  | some ⟨_, _, .func fd, _⟩ => some (fd.name, fd.qualname, fd.params, fd.body, fd.scope, fd.globals, fd.closure, fd.builtins)
  | _ => none
def GetD.val (d : GetD) : He.FnW := some (d.m, d.qual, d.params, .stmts d.body, d.scope, mainGlobals, [], builtinsNs)
def GetD.ok (K : PySem.W.Frag) (d : GetD) : Bool := decide (PySem.W.findIn K (.ref (He.ga K d.c)) d.m = some (some (.ref (He.ma K (He.ga K d.c) d.m)))) && (decide (PySem.W.specialIn K (.ref (He.ma K (He.ga K d.c) d.m)) "__get__" = some (some (.builtin "property.__get__"))) && (decide (PySem.W.takesIn K (.ref (He.ma K (He.ga K d.c) d.m)) = some true) &&
  ((match PySem.W.recIn K (He.ma K (He.ga K d.c) d.m) "property" with
    | some (.ref g :: _) => true
    | _ => false) && (PySem.W.keepIn K (.ref (gf K d.c d.m)) && (match K.lookup (gf K d.c d.m) with
    | some ⟨_, _, .func fd, _⟩ => PySem.W.codeIn K fd.code d.qual && (He.dflB K fd.defaults [] && He.kwdB K fd.kwdefaults [])
    | _ => false)))))
theorem GetD.get {d : GetD} (e : fnAt K (gf K d.c d.m) = d.val) (h : d.ok K = true) : PropOf K (He.ga K d.c) d.m (He.ma K (He.ga K d.c) d.m) (gf K d.c d.m) ∧ ∃ fd, FunD K d.m d.qual d.params d.body d.scope [] [] (gf K d.c d.m) fd := by
  obtain ⟨h1, h⟩ := b2 h
  obtain ⟨h2, h⟩ := b2 h
  obtain ⟨h3, h⟩ := b2 h
  obtain ⟨h4, h⟩ := b2 h
  obtain ⟨kp, h5⟩ := b2 h
  refine ⟨⟨of_decide_eq_true h1, of_decide_eq_true h2, of_decide_eq_true h3, ?_⟩, ?_⟩
  · split at h4
    · rename_i g rest q
      have eg : gf K d.c d.m = g := by
        unfold gf
        rw [q]
      rw [eg]
      exact ⟨rest, q⟩
    · cases h4
  · unfold fnAt at e
    cases q : K.lookup (gf K d.c d.m) with
    | none =>
      rw [q] at h5
      cases h5
    | some o =>
      obtain ⟨oc, od, dt, osl⟩ := o
      rw [q] at h5 e
      cases dt with
      | func fd =>
        obtain ⟨n1, n2, n3, n4, n5, n6, n7, n8, n9, n10, n11, n12, n13, n14, n15⟩ := fd
        have e2 : (some (n1, n2, n3, n4, n5, n6, n7, n15) : He.FnW) = some (d.m, d.qual, d.params, .stmts d.body, d.scope, mainGlobals, [], builtinsNs) := e
        simp only [Option.some.injEq, Prod.mk.injEq] at e2
        obtain ⟨q1, q2, q3, q4, q5, q6, q7, q8⟩ := e2
        subst q1 q2 q3 q4 q5 q6 q7 q8
        obtain ⟨k1, k2⟩ := b2 h5
        obtain ⟨k3, k4⟩ := b2 k2
        exact ⟨_, ⟨oc, od, n8, n9, n10, n11, n12, n13, n14, osl, rfl, q, k1, He.dflB_ok k3, He.kwdB_ok k4⟩, kp⟩
      | _ => cases h5
end
/-! ### the Hook with the properties' getters -/
abbrev AlP : Type := He.AlX × List He.FnW
structure SaysP (fa : List He.Fa) (fn : List He.DefD) (tf : List He.Defn) (gs : List GetD) (ex : PySem.W.Frag → Bool) (w : World) (h : Heap) (K : PySem.W.Frag) : Prop where
  x : He.SaysX fa fn [] tf (fun K => ex K && gs.all fun d => d.ok K) w h K
  g : gs.map (fun d => fnAt K (gf K d.c d.m)) = gs.map GetD.val
/-- what the module's names reach, and the settings' own names -/
def asP (g : Addr → Option Obj) (n : Nat) : List Addr := cStatics :: He.asD g n
def obsP (n : Nat) (fa : List He.Fa) (fn : List He.DefD) (tf : List He.Defn) (gs : List GetD) (ex : PySem.W.Frag → Bool) (g : Addr → Option Obj) : AlP :=
  let K := He.frT g (asP g n)
  ((He.obsT fa fn [] K, ex K && ((gs.all fun d => d.ok K) && He.tabsB g tf K)), gs.map fun d => fnAt K (gf K d.c d.m))
theorem saysP_of {n : Nat} {fa : List He.Fa} {fn : List He.DefD} {tf : List He.Defn} {gs : List GetD} {ex : PySem.W.Frag → Bool} {w : World} {h : Heap} (e : obsP n fa fn tf gs ex h.get? = (He.valX fn [] w, gs.map GetD.val)) : SaysP fa fn tf gs ex w h (He.frT h.get? (asP h.get? n)) := by
  have e1 : He.obsT fa fn [] (He.frT h.get? (asP h.get? n)) = He.valT fn [] w := congrArg (fun z : AlP => z.1.1) e
  have e2 : (ex (He.frT h.get? (asP h.get? n)) && ((gs.all fun d => d.ok (He.frT h.get? (asP h.get? n))) && He.tabsB h.get? tf (He.frT h.get? (asP h.get? n)))) = true := congrArg (fun z : AlP => z.1.2) e
  obtain ⟨h1, h2⟩ := b2 e2
  obtain ⟨h3, h4⟩ := b2 h2
  have tab : ∀ p ∈ tf, PySem.W.codeHdIn (He.frT h.get? (asP h.get? n)) (He.cT (He.frT h.get? (asP h.get? n)) p).1 (He.cT (He.frT h.get? (asP h.get? n)) p).2 = true ∧ ∃ o, h.get? (He.cT (He.frT h.get? (asP h.get? n)) p).2 = some o ∧ He.emptyTab o = true := fun p hp => by
    obtain ⟨q1, q2⟩ := b2 (List.all_eq_true.mp h4 p hp)
    refine ⟨q1, ?_⟩
    split at q2
    · rename_i o eo
      exact ⟨o, eo, q2⟩
    · cases q2
  refine ⟨⟨e1, ?_, fun p hp => (tab p hp).1, fun p hp => ?_, fun p hp => ?_⟩, congrArg (fun z : AlP => z.2) e⟩
  · exact Bool.and_eq_true_iff.mpr ⟨h1, h3⟩
  · obtain ⟨_, o, q, z⟩ := tab p hp
    exact He.frT_none q z
  · obtain ⟨_, o, q, z⟩ := tab p hp
    rw [q, He.emptyTab_eq z]
def hookP (n : Nat) (fa : List He.Fa) (fn : List He.DefD) (tf : List He.Defn) (gs : List GetD) (ex : PySem.W.Frag → Bool) : PySem.W.Hook where
  α := AlP
  obs := fun s => obsP n fa fn tf gs ex s.heap.get?
  val := fun w => (He.valX fn [] w, gs.map GetD.val)
  says := fun w h => ∃ K : PySem.W.Frag, K.In h ∧ SaysP fa fn tf gs ex w h K
  of := fun _ _ e => ⟨_, He.frT_in, saysP_of e⟩
  keeps := fun _ _ _ ⟨K, hK, c, g⟩ k => ⟨K, PySem.W.Frag.In.keeps hK k, ⟨c.t, c.more, c.hd, c.out, fun p hp => k _ _ (c.empty p hp)⟩, g⟩
theorem obsP_eq {n : Nat} {fa : List He.Fa} {fn : List He.DefD} {tf : List He.Defn} {gs : List GetD} {ex : PySem.W.Frag → Bool} {g : Addr → Option Obj} {s : Shared} (h : ∀ a, g a = s.heap.get? a) : obsP n fa fn tf gs ex g = (hookP n fa fn tf gs ex).obs s := by
  have e : g = s.heap.get? := funext h
  rw [e] <;> rfl
section
variable {fa : List He.Fa} {fn : List He.DefD} {tf : List He.Defn} {gs : List GetD} {ex : PySem.W.Frag → Bool} {w : World} {h : Heap} {K : PySem.W.Frag}
theorem SaysP.own (c : SaysP fa fn tf gs ex w h K) : ex K = true := (b2 c.x.more).1
theorem SaysP.fact (c : SaysP fa fn tf gs ex w h K) {f : He.Fa} (h : f ∈ fa) : f.ok K = true := He.SaysD.facts (He.SaysT.d c.x.t) h
theorem SaysP.def_ (c : SaysP fa fn tf gs ex w h K) {d : He.DefD} (h : d ∈ fn) : ∃ fd, FunD K d.name d.qual d.params d.body d.scope (d.dvs K) (d.kws K) (He.fAd K d.at_) fd := He.SaysD.defs (He.SaysT.d c.x.t) h
theorem SaysP.prop (c : SaysP fa fn tf gs ex w h K) (i : Nat) {d : GetD} (hd : gs[i]? = some d := by rfl) : PropOf K (He.ga K d.c) d.m (He.ma K (He.ga K d.c) d.m) (gf K d.c d.m) ∧ ∃ fd, FunD K d.m d.qual d.params d.body d.scope [] [] (gf K d.c d.m) fd := by
  have e2 : (gs.map fun d => fnAt K (gf K d.c d.m))[i]? = (gs.map GetD.val)[i]? := by rw [c.g]
  rw [List.getElem?_map, List.getElem?_map, hd] at e2
  exact GetD.get (Option.some.inj e2) (List.all_eq_true.mp (b2 c.x.more).2 d (List.mem_of_getElem? hd))
end
end DL
namespace DL
open PySem PySem.Spec PyProof.Rows L2
/-! ### the last pieces -/
section
variable {P : Program} {w : World} {K : PySem.W.Frag} {mg : Str → Option Value} {base : Heap} {x qual c kw : Str} {params : Arguments} {body : List Stmt} {scope : Scope} {f : Addr} {fd : FuncData} {dv : V} {k : Nat} {sem : Sem} {dflt : D}
theorem vals_none {ds : List Value} (h : Vals [] ds) : ds = [] := by cases h; rfl
/-- a class whose __init__ has one parameter with a default -/
theorem mkO_of (gl : mg c = some (.ref (He.ga K c))) (M : Mk K (He.ga K c) f) (FN : FnOk P w K mg base (L2.CX P w) k f fd ["self", kw] (spD K 2 sem)) (F : FunD K x qual params body scope [dv] [] f fd) (hd : ∀ F H, Dat K F H dflt dv)
    (b2 : ∀ (T : Addr) (kV doc pm : Value) (an : Option Addr) (cdv ct u v d : Value), ∃ k, bindArgs (PySem.W.fnOf x qual params body scope (.ref T) kV doc pm an cdv ct) ⟨[u, v], []⟩ = seqItems? (.ref T) >>= k ∧ k (some #[d]) = pure [(("self" : Str), u), (kw, v)])
    (b1 : ∀ (T : Addr) (kV doc pm : Value) (an : Option Addr) (cdv ct u d : Value), ∃ k, bindArgs (PySem.W.fnOf x qual params body scope (.ref T) kV doc pm an cdv ct) ⟨[u], []⟩ = seqItems? (.ref T) >>= k ∧ k (some #[d]) = pure [(("self" : Str), u), (kw, d)])
    (bk : ∀ (T : Addr) (kV doc pm : Value) (an : Option Addr) (cdv ct u d z : Value), ∃ k, bindArgs (PySem.W.fnOf x qual params body scope (.ref T) kV doc pm an cdv ct) ⟨[u], [(kw, z)]⟩ = seqItems? (.ref T) >>= k ∧ k (some #[d]) = pure [(("self" : Str), u), (kw, z)]) : MkO P w K mg base k c kw sem dflt := by
  refine ⟨gl, f, fd, ["self", kw], M, FN, ?_, ?_, ?_⟩
  · obtain ⟨ds, h1, h2⟩ := F.binds1 (ps := ["self", kw]) 2 1 (List.cons_ne_nil _ _) rfl fun T kV doc pm an cdv ct us its l1 l2 => match us, l1, its, l2 with
      | [u, v], _, [d], _ => b2 T kV doc pm an cdv ct u v d
    rw [vals_none h1] at h2
    exact h2
  · obtain ⟨ds, h1, h2⟩ := F.binds1 (ps := ["self", kw]) 1 0 (List.cons_ne_nil _ _) rfl fun T kV doc pm an cdv ct us its l1 l2 => match us, l1, its, l2 with
      | [u], _, [d], _ => b1 T kV doc pm an cdv ct u d
    exact ⟨ds, [dv], h2, h1, fun F H => .cons (hd F H) .nil⟩
  · obtain ⟨its, h⟩ := F.kbindsD (ps := ["self", kw]) 1 [kw] (fun us _ ws => us ++ ws) (List.cons_ne_nil _ _) (fun r1 _ r3 => r1.append r3) fun T kV doc pm an cdv ct us its ws l1 l2 l3 => match us, l1, its, l2, ws, l3 with
      | [u], _, [d], _, [z], _ => bk T kV doc pm an cdv ct u d z
    exact ⟨_, h⟩
/-- the levels of own comparing -/
def lvl (n : Nat) : Nat := n * (n + 1) / 2
theorem lvl_succ (n : Nat) : lvl (n + 1) = n + lvl n + 1 := by
  have e : (n + 1) * (n + 1 + 1) = n * (n + 1) + (n + 1) * 2 := by rw [Nat.mul_comm n (n + 1), ← Nat.mul_add]
  unfold lvl
  rw [e, Nat.add_mul_div_right _ _ (by decide)]
  omega
theorem own_all {own : Str → Option Str} (step : ∀ (X : Cx) (n : Nat) (c : Str), (own c).isSome = true → X.prog = P → X.w = w → X.K = K → X.mg = mg → X.base = base → (∀ X : Cx, X.prog = P → X.w = w → X.K = K → X.mg = mg → X.base = base → OwnAll X own n (lvl n)) → OwnEq X own n (n + lvl n + 1) c) :
    ∀ (n : Nat) (X : Cx), X.prog = P → X.w = w → X.K = K → X.mg = mg → X.base = base → OwnAll X own n (lvl n)
  | 0, X, _, _, _, _, _ => fun m h => absurd h (Nat.not_lt_zero _)
  | n + 1, X, h1, h2, h3, h4, h5 => fun m hm c hc => by
    have up : ∀ {j : Nat}, OwnEq X own m j c → j ≤ lvl (n + 1) → OwnEq X own m (lvl (n + 1)) c := fun {j} q hj => by
      obtain ⟨⟨fa, fd, ps, q1, q2⟩, q3, q4, q5⟩ := q
      exact ⟨⟨fa, fd, ps, q1.mono hj, q2⟩, q3, q4, q5⟩
    rw [lvl_succ] at up ⊢
    by_cases e : m = n
    · subst e
      exact step X m c hc h1 h2 h3 h4 h5 (own_all step m)
    · exact up (own_all step n X h1 h2 h3 h4 h5 m (by omega) c hc) (by omega)
end
end DL
namespace DL
open PySem PySem.Spec PyProof.Rows L2
/-! ### zip over lists and tuples, mixed: by KE.GoesZip and KE.GoesMore, which have it for iterators of any kind -/
def SqA (c : Bool) (h : Heap) (l : Addr) (its : Array Value) : Prop := if c then h.IsTuple l its else h.IsList l its
/-- the iterator over such a one, as it is made -/
def itrO (c : Bool) (l : Addr) : Obj := { cls := .type (if c then "tuple_iterator" else "list_iterator"), data := .fields #[.ref l, .int 0 0] }
def SqW (c : Bool) (it l : Addr) (its : Array Value) (i : Nat) (h : Heap) : Prop := (if c then h.IsTupleIter it l i else h.IsListIter it l i) ∧ SqA c h l its
section
variable {P : Program} {w : World} {A : Around} {c : Bool} {it l : Addr} {its : Array Value} {i : Nat} {h h' : Heap}
theorem sq_draws (c : Bool) (hh : A.handled = none) (ne : l ≠ it) (its : Array Value) : Draws P w A it [it, l] its.size (fun i v => its[i]? = some v) (SqW c it l its) := by
  cases c with
  | true => exact Draws.tuple hh it l ne its
  | false => exact Draws.list hh it l ne its
theorem sq_begins (c : Bool) (l : Addr) (its : Array Value) : Begins (.ref l) (itrO c l) fun h => SqA c h l its := by
  cases c with
  | true => exact begins_tuple l its
  | false => exact begins_list l its
theorem sq_first (e : h.get? it = some (itrO c l)) (a : SqA c h l its) : SqW c it l its 0 h := by
  cases c <;> exact ⟨⟨_, e, rfl, rfl⟩, a⟩
theorem sq_at (a : SqA c h l its) (k : ∀ o, h.get? l = some o → h'.get? l = some o) : SqA c h' l its := by
  cases c with
  | true => exact Heap.IsTuple.at a k
  | false => exact Heap.IsList.at a k
/-- where it has no more -/
theorem sq_none (c : Bool) (hh : A.handled = none) (its : Array Value) (k : Nat) (out : its.size ≤ k) : Draws P w A it [it, l] k (fun _ _ => False) (fun i h => i = k ∧ SqW c it l its k h) := by
  refine ⟨fun i h st => ?_, fun i h h' st same => ⟨st.1, ?_⟩, fun i s Q E lt st _ => absurd st.1 (Nat.ne_of_lt lt), fun s Q E st q => ?_⟩
  · obtain ⟨_, j, _⟩ := st
    cases c <;> exact let ⟨o, e, _⟩ := j; ⟨o, e⟩
  · obtain ⟨_, j, a⟩ := st
    refine ⟨?_, sq_at a (same l (by simp))⟩
    cases c <;> exact let ⟨o, e, r⟩ := j; ⟨o, same it (by simp) o e, r⟩
  · obtain ⟨_, j, a⟩ := st
    have e : its[k]? = none := Array.getElem?_eq_none out
    cases c with
    | true => exact RZ.nextOf_tuple_end hh j a e q
    | false => exact wpAny_nextOf_list_end hh j a e q
/-- at any place -/
theorem sq_any (c : Bool) (hh : A.handled = none) (ne : l ≠ it) (its : Array Value) (W : SqW c it l its i h) : ∃ n Pp St, Draws P w A it [it, l] n Pp St ∧ i ≤ n ∧ (its.size ≤ i → i = n) ∧ St i h := by
  by_cases out : its.size ≤ i
  · exact ⟨i, _, _, sq_none c hh its i out, Nat.le_refl _, fun _ => rfl, rfl, W⟩
  · exact ⟨_, _, _, sq_draws c hh ne its, by omega, fun z => absurd z out, W⟩
/-- the iterator alone -/
def SqI (c : Bool) (h : Heap) (it l : Addr) (i : Nat) : Prop := if c then h.IsTupleIter it l i else h.IsListIter it l i
theorem SqI.obj (x : SqI c h it l i) : ∃ o, h.get? it = some o ∧ o.data = .fields #[.ref l, .int i 0] := by
  cases c <;> (obtain ⟨o, e, _, d⟩ := x; exact ⟨o, e, d⟩)
theorem SqI.on (x : SqI c h it l i) (k : ∀ o, h.get? it = some o → h'.get? it = some o) : SqI c h' it l i := by
  cases c <;> (obtain ⟨o, e, r⟩ := x; exact ⟨o, k o e, r⟩)
end
def SqM (c : Bool) (K : PySem.W.Frag) (H : Hp) (a : Addr) (xs : List V) : Prop := if c then SqT K H a xs else SqL K H a xs
section
variable {X : Cx} {pins : List (Addr × Obj)} {σ : St} {H : Hp} {s : Shared} {c : Bool} {a : Addr} {xs ys : List V}
theorem _root_.L2.Inv.sqm (I : Inv X pins σ H s) (h : SqM c X.K H a xs) : ∃ its, Vals xs its ∧ SqA c s.heap a its.toArray := by
  cases c with
  | true => exact let ⟨its, r, p, _⟩ := I.tuple h; ⟨its, r, p⟩
  | false => exact let ⟨its, r, p, _⟩ := I.list h; ⟨its, r, p.isList⟩
theorem _root_.L2.Inv.sqm_inj (I : Inv X pins σ H s) (h : SqM c X.K H a xs) (g : SqM c X.K H a ys) : xs = ys := by
  cases c with
  | true => exact I.tuple_inj h g
  | false => exact I.list_inj h g
end
/-- what such a walk gives: at each turn a new pair of what stands there -/
def ItM (b1 b2 : Bool) (K : PySem.W.Frag) (a b : Addr) : It where
  go i H := ∃ (xs ys : List V) (x y : V), SqM b1 K H a xs ∧ SqM b2 K H b ys ∧ xs[i]? = some x ∧ ys[i]? = some y
  yld i H v H' := ∃ T x y, v = .ref T ∧ H T = none ∧ H' = upd H T (.tup [x, y]) ∧ (∀ xs, SqM b1 K H a xs → xs[i]? = some x) ∧ ∀ ys, SqM b2 K H b ys → ys[i]? = some y
  stop i H := ∃ xs ys : List V, SqM b1 K H a xs ∧ SqM b2 K H b ys ∧ (xs.length ≤ i ∨ ys.length ≤ i)
/-- the five cells: the zip, its two tuples, the two iterators -/
structure Z5 (z TI TO i1 i2 : Addr) (b1 b2 : Bool) (a b : Addr) (i : Nat) (h : Heap) : Prop where
  zp : IsZip h z TI TO .none
  pi : IsTupOf2 h TI (.ref i1) (.ref i2)
  po : ∃ x y, IsTupOf2 h TO x y
  j1 : SqI b1 h i1 a i
  j2 : SqI b2 h i2 b i
theorem sep_of {z TI TO i1 i2 a b : Addr} (D : ZipApart z TI TO i1 i2 a b) : ZipSep2 z TI TO i1 i2 [i1, a] [i2, b] where
  TIz := D.TIz
  TOz := D.TOz
  TITO := D.TITO
  TIi1 := D.TIi1
  TIi2 := D.TIi2
  mem1 := List.mem_cons_self
  mem2 := List.mem_cons_self
  zf1 m := by simp at m; exact m.elim (fun e => D.i1z e.symm) fun e => D.l1z e.symm
  zf2 m := by simp at m; exact m.elim (fun e => D.i2z e.symm) fun e => D.l2z e.symm
  Tf1 m := by simp at m; exact m.elim D.TOi1 fun e => D.l1TO e.symm
  Tf2 m := by simp at m; exact m.elim D.TOi2 fun e => D.l2TO e.symm
  sep1_2 m := by simp at m; exact m.elim D.i12 fun e => D.l2i1 e.symm
  sep2_1 m := by simp at m; exact m.elim (fun e => D.i12 e.symm) fun e => D.l1i2 e.symm
section
variable {z TI TO i1 i2 a b : Addr} {b1 b2 : Bool} {i : Nat} {h h' : Heap}
def cells5 (z TI TO i1 i2 : Addr) : List Addr := [z, TI, TO, i1, i2]
theorem cells_mem {c : Addr} : c ∈ cells5 z TI TO i1 i2 ↔ c = z ∨ c = TI ∨ c = TO ∨ c = i1 ∨ c = i2 := by simp [cells5]
theorem Z5.there (Z : Z5 z TI TO i1 i2 b1 b2 a b i h) {c : Addr} (m : c ∈ cells5 z TI TO i1 i2) : ∃ o, h.get? c = some o ∧ ∀ v, o.data ≠ .cell v := by
  obtain ⟨x, y, po⟩ := Z.po
  obtain ⟨o1, e1, d1⟩ := Z.j1.obj
  obtain ⟨o2, e2, d2⟩ := Z.j2.obj
  rcases cells_mem.mp m with rfl | rfl | rfl | rfl | rfl
  · exact ⟨_, Z.zp, by intro v; simp⟩
  · exact ⟨_, Z.pi, by intro v; simp⟩
  · exact ⟨_, po, by intro v; simp⟩
  · exact ⟨o1, e1, by rw [d1]; intro v; simp⟩
  · exact ⟨o2, e2, by rw [d2]; intro v; simp⟩
theorem Z5.later (Z : Z5 z TI TO i1 i2 b1 b2 a b i h) (k : ∀ c ∈ cells5 z TI TO i1 i2, ∀ o, h.get? c = some o → h'.get? c = some o) : Z5 z TI TO i1 i2 b1 b2 a b i h' := by
  obtain ⟨x, y, po⟩ := Z.po
  have on : ∀ c, (c = z ∨ c = TI ∨ c = TO ∨ c = i1 ∨ c = i2) → ∀ o, h.get? c = some o → h'.get? c = some o := fun c m => k c (cells_mem.mpr m)
  exact ⟨on z (.inl rfl) _ Z.zp, on TI (.inr (.inl rfl)) _ Z.pi, ⟨x, y, on TO (.inr (.inr (.inl rfl))) _ po⟩, Z.j1.on (on i1 (.inr (.inr (.inr (.inl rfl))))), Z.j2.on (on i2 (.inr (.inr (.inr (.inr rfl)))))⟩
end
theorem turn_zm {b1 b2 : Bool} {P : Program} {w : World} {K : PySem.W.Frag} {elts : List Expr} {kk : Nat} {tpos : Pos} {a b z TI TO i1 i2 : Addr} (D : ZipApart z TI TO i1 i2 a b) :
    Turn P w K (.Tuple elts kk tpos) (ItM b1 b2 K a b) (cells5 z TI TO i1 i2) z (Z5 z TI TO i1 i2 b1 b2 a b) := by
  have S := sep_of D
  refine ⟨cells_mem.mpr (.inl rfl), fun i h Z c m => Z.there m, fun i h h' Z k => Z.later k, ?_, ?_, fun A i s Q E Z q => wpAny_pyIter_zip Z.zp q⟩
  · intro X eP ew eK calm i pins s σ H E I free Z go
    subst eP ew eK
    obtain ⟨xs, ys, x, y, mx, my, ex, ey⟩ := go
    obtain ⟨us, vu, pu⟩ := I.sqm mx
    obtain ⟨vs, vv, pv⟩ := I.sqm my
    obtain ⟨u, eu, ru⟩ := vu.get ex
    obtain ⟨v, ev, rv⟩ := vv.get ey
    obtain ⟨t1, t2, po⟩ := Z.po
    have hh : X.A.in1.handled = none := I.ok.hd calm
    have n1 : i < us.toArray.size := by have := (List.getElem?_eq_some_iff.mp eu).1; simpa using this
    have n2 : i < vs.toArray.size := by have := (List.getElem?_eq_some_iff.mp ev).1; simpa using this
    have zlt := Heap.lt_size Z.zp
    have below : ∀ c ∈ cells5 z TI TO i1 i2, c < s.heap.objs.size := fun c m => let ⟨_, e, _⟩ := Z.there m; Heap.lt_size e
    refine wpAny_pyNext_zipD2_item S (sq_draws b1 hh D.l1i1 us.toArray) (sq_draws b2 hh D.l2i2 vs.toArray) Z.zp Z.pi po ⟨Z.j1, pu⟩ ⟨Z.j2, pv⟩ n1 n2 fun x1 x2 h1 tk p1 p2 zp1 po1 w1 w2 tup sz same => ?_
    have q1 : x1 = u := by
      have : us.toArray[i]? = some u := by simpa using eu
      exact Option.some.inj (p1.symm.trans this)
    have q2 : x2 = v := by
      have : vs.toArray[i]? = some v := by simpa using ev
      exact Option.some.inj (p2.symm.trans this)
    subst q1 q2
    refine ⟨_, rfl, wpAny_letOwnedTupleGo_zip (s := { s with heap := h1, toks := tk }) zp1 fun h2 zp2 sb => ?_⟩
    have keep2 : ∀ c o, c ≠ z → h1.get? c = some o → h2.get? c = some o := fun c o ne e => (sb.2 c ne).trans e
    have tup2 := keep2 _ _ (Nat.ne_of_gt zlt) tup
    have frame : ∀ c o, c ∉ cells5 z TI TO i1 i2 → s.heap.get? c = some o → h2.get? c = some o := fun c o out e => by
      have ne : ∀ d, (d = z ∨ d = TI ∨ d = TO ∨ d = i1 ∨ d = i2) → c ≠ d := fun d m q => out (q ▸ cells_mem.mpr m)
      exact keep2 c o (ne z (.inl rfl)) (same c o (ne z (.inl rfl)) (ne TO (.inr (.inr (.inl rfl)))) (ne i1 (.inr (.inr (.inr (.inl rfl))))) (ne i2 (.inr (.inr (.inr (.inr rfl))))) e)
    have made : ObjOk X.prog X.w (upd H s.heap.objs.size (.tup [x, y])) h2 s.heap.objs.size (.tup [x, y]) := ⟨show 2 ≤ sizeLine by decide, [x1, x2], .cons ru (.cons rv .nil), ⟨_, tup2, rfl, _, rfl⟩⟩
    refine ⟨.ref s.heap.objs.size, _, I.turnedNew (ch := cells5 z TI TO i1 i2) frame free (Nat.le_refl _) made, rfl, ⟨_, x, y, rfl, I.hok.fresh (Nat.le_refl _), rfl, fun l hl => ?_, fun l hl => ?_⟩, ⟨zp2, ?_, ⟨x1, x2, keep2 _ _ D.TOz po1⟩, ?_, ?_⟩, fun c m => ?_⟩
    · rw [I.sqm_inj hl mx]
      exact ex
    · rw [I.sqm_inj hl my]
      exact ey
    · exact keep2 _ _ D.TIz (same _ _ D.TIz D.TITO D.TIi1 D.TIi2 Z.pi)
    · exact SqI.on w1.1 fun o e => keep2 _ o D.i1z e
    · exact SqI.on w2.1 fun o e => keep2 _ o D.i2z e
    · rw [upd_ne (Nat.ne_of_lt (below c m))]
      exact (free c m).1
  · intro X eP ew eK calm i pins s σ H E I free Z stop
    subst eP ew eK
    obtain ⟨xs, ys, mx, my, ended⟩ := stop
    obtain ⟨us, vu, pu⟩ := I.sqm mx
    obtain ⟨vs, vv, pv⟩ := I.sqm my
    obtain ⟨t1, t2, po⟩ := Z.po
    have hh : X.A.in1.handled = none := I.ok.hd calm
    obtain ⟨n1, P1, S1, D1, le1, end1, st1⟩ := sq_any (P := X.prog) (w := X.w) b1 hh D.l1i1 us.toArray ⟨Z.j1, pu⟩
    obtain ⟨n2, P2, S2, D2, le2, end2, st2⟩ := sq_any (P := X.prog) (w := X.w) b2 hh D.l2i2 vs.toArray ⟨Z.j2, pv⟩
    have over : i = n1 ∨ i = n2 := ended.imp (fun z => end1 (by have := vu.length; simp; omega)) fun z => end2 (by have := vv.length; simp; omega)
    refine wpAny_pyNext_zipD2_end S D1 D2 Z.zp Z.pi po st1 st2 le1 le2 over fun h1 tk same => ⟨rfl, I.turnedL (ch := cells5 z TI TO i1 i2) (fun c o out e => ?_) free⟩
    have ne : ∀ d, (d = z ∨ d = TI ∨ d = TO ∨ d = i1 ∨ d = i2) → c ≠ d := fun d m q => out (q ▸ cells_mem.mpr m)
    exact same c o (ne z (.inl rfl)) (ne TO (.inr (.inr (.inl rfl)))) (ne i1 (.inr (.inr (.inr (.inl rfl))))) (ne i2 (.inr (.inr (.inr (.inr rfl))))) e
/-! ### zip(x, y) -/
def iZm (K : PySem.W.Frag) (ta : TA) : TI := fun σ H R => ta σ H fun vs H1 => ∃ b1 b2 a b xs ys, vs = [.ref a, .ref b] ∧ SqM b1 K H1 a xs ∧ SqM b2 K H1 b ys ∧ R (ItM b1 b2 K a b) H1
theorem sq_lt {c : Bool} {h : Heap} {l : Addr} {its : Array Value} (p : SqA c h l its) : l < h.objs.size := by
  cases c <;> exact let ⟨_, e, _⟩ := p; Heap.lt_size e
theorem pi_zm {X : Cx} {e e2 : Expr} {ta : TA} {p pos tpos : Pos} {elts : List Expr} {kk : Nat} (hg : Gl X "zip") (hm : X.mg "zip" = none) (ha : PA X [e, e2] ta) (hs : starEach [e, e2] X.env = (false, eval e X.env) :: starEach [e2] X.env := by rfl) (hpl : (backTo pos (starEach [e2] X.env)).any (·.1) = false := by rfl) :
    PI X (.Tuple elts kk tpos) (.Call (.Name "zip" p) [e, e2] [] pos) (iZm X.K ta) := by
  constructor
  intro pins s σ H R I h
  have args := ha.run pos pins s σ H _ I h
  refine Call_ (ld_blt I hg hm PyProof.Rows.boot_zip (PyProof.Rows.callWith_type1 (thn args ?_) hs hpl))
  rintro us s1 ⟨vs, H1, I1, r1, b1, b2, a, b, xs, ys, rfl, qx, qy, q⟩
  obtain ⟨u1, u2, rfl, e1, e2⟩ : ∃ u1 u2, us = [u1, u2] ∧ RelV (.ref a) u1 ∧ RelV (.ref b) u2 := by
    cases r1 with
    | cons x t => cases t with
      | cons y t => cases t; exact ⟨_, _, rfl, x, y⟩
  cases e1
  cases e2
  obtain ⟨xv, _, px⟩ := I1.sqm qx
  obtain ⟨yv, _, py⟩ := I1.sqm qy
  have apart := PySem.W.ktu_apart s1.heap.objs.size a b (sq_lt px) (sq_lt py)
  refine zip_begins2 (sq_begins b1 a xv.toArray) (sq_begins b2 b yv.toArray) px py fun h' zz zi zo j1 j2 sz same => ?_
  have w1 := sq_first j1 (sq_at px fun o e => same a o e)
  have w2 := sq_first j2 (sq_at py fun o e => same b o e)
  refine wpAny_pyIter_zip zz ⟨_, _, _, _, H1, rfl, I1.kept (t' := s1.toks) same, turn_zm apart, ⟨zz, zi, ⟨_, _, zo⟩, w1.1, w2.1⟩, fun c m => ?_, q⟩
  have high : s1.heap.objs.size ≤ c := by
    rcases cells_mem.mp m with rfl | rfl | rfl | rfl | rfl <;> omega
  exact I1.fpOk high (I1.hok.fresh high)
end DL
namespace DL
open PySem PySem.Spec PyProof.Rows L2
/-! ### sum, min, max of lists of whole numbers; max of two; minus -/
def fSum : OpA := fun ds Q => match ds with
  | [.lst xs] => (match intsD xs with
    | some ns => Q (.sh (.int ns.sum))
    | none => False)
  | _ => False
def fMin : OpA := fun ds Q => match ds with
  | [.lst xs] => (match intsD xs with
    | some ns => 0 < ns.length ∧ ∀ m, m ∈ ns → (∀ y, y ∈ ns → m ≤ y) → Q (.sh (.int m))
    | none => False)
  | _ => False
def fMaxL : OpA := fun ds Q => match ds with
  | [.lst xs] => (match intsD xs with
    | some ns => 0 < ns.length ∧ ∀ m, m ∈ ns → (∀ y, y ∈ ns → y ≤ m) → Q (.sh (.int m))
    | none => False)
  | _ => False
def fMax2 : OpA := fun ds Q => match ds with
  | [.int i, .int j] => Q (.sh (.int (if j > i then j else i)))
  | _ => False
def fMin2 : OpA := fun ds Q => match ds with
  | [.int i, .int j] => Q (.sh (.int (if j < i then j else i)))
  | _ => False
section
variable {K : PySem.W.Frag} {G : Gh}
theorem cd_sum : CallD K G (rSum K) fSum := by
  intro tmp F env fp σ H ds vs Qd Q S l h k
  unfold fSum at h
  split at h
  · rename_i xs
    obtain ⟨v, rfl, l1⟩ := l.one
    split at h
    · rename_i ns hb
      obtain ⟨a, us, rfl, h1, h2⟩ := l1.lst
      rw [ints_dat h2 hb] at h1
      exact ⟨a, ns, rfl, .of h1, k (.sh (.int _)) _ _ _ Ext.refl S .int h⟩
    · exact h.elim
  · exact h.elim
theorem cd_min : CallD K G (rMin K) fMin := by
  intro tmp F env fp σ H ds vs Qd Q S l h k
  unfold fMin at h
  split at h
  · rename_i xs
    obtain ⟨v, rfl, l1⟩ := l.one
    split at h
    · rename_i ns hb
      obtain ⟨a, us, rfl, h1, h2⟩ := l1.lst
      rw [ints_dat h2 hb] at h1
      exact ⟨a, ns, rfl, .of h1, h.1, fun m m1 m2 => k (.sh (.int _)) _ _ _ Ext.refl S .int (h.2 m m1 m2)⟩
    · exact h.elim
  · exact h.elim
theorem cd_maxL : CallD K G (rMax K) fMaxL := by
  intro tmp F env fp σ H ds vs Qd Q S l h k
  unfold fMaxL at h
  split at h
  · rename_i xs
    obtain ⟨v, rfl, l1⟩ := l.one
    split at h
    · rename_i ns hb
      obtain ⟨a, us, rfl, h1, h2⟩ := l1.lst
      rw [ints_dat h2 hb] at h1
      exact ⟨a, ns, rfl, .of h1, h.1, fun m m1 m2 => k (.sh (.int _)) _ _ _ Ext.refl S .int (h.2 m m1 m2)⟩
    · exact h.elim
  · exact h.elim
theorem cd_max2 : CallD K G (fun xs H Q => ∃ i j, xs = [.int i, .int j] ∧ Q (.int (if j > i then j else i)) H) fMax2 := by
  intro tmp F env fp σ H ds vs Qd Q S l h k
  unfold fMax2 at h
  split at h
  · rename_i i j
    obtain ⟨v, u, rfl, l1, l2⟩ := l.two
    rw [l1.int, l2.int]
    exact ⟨i, j, rfl, k (.sh (.int _)) _ _ _ Ext.refl S .int h⟩
  · exact h.elim
theorem cd_min2 : CallD K G (fun xs H Q => ∃ i j, xs = [.int i, .int j] ∧ Q (.int (if j < i then j else i)) H) fMin2 := by
  intro tmp F env fp σ H ds vs Qd Q S l h k
  unfold fMin2 at h
  split at h
  · rename_i i j
    obtain ⟨v, u, rfl, l1, l2⟩ := l.two
    rw [l1.int, l2.int]
    exact ⟨i, j, rfl, k (.sh (.int _)) _ _ _ Ext.refl S .int h⟩
  · exact h.elim
end
def wNeg (we : WE) : WE := fun env Q => we env fun r env1 => match pk env1 r with
  | some (.int i) => Q (.sh (.int (-i))) env1
  | _ => False
theorem de_neg {X : Cx} {G : Gh} {a : Expr} {wa : WE} {pos : Pos} (ha : DE X G a wa) : DE X G (.UnaryOp .USub a pos) (wNeg wa) := by
  refine PE.imp (pe_un un_neg ha) fun σ H Q h => ?_
  obtain ⟨tmp, F, env, fp, Qd, S, h, k⟩ := h
  refine lift1 S h fun r env1 v H1 F1 fp1 e1 S1 r1 h1 => ?_
  split at h1
  · rename_i i hp
    exact ⟨i, (Lk.of_pk S1 r1 hp).int, k (.sh (.int _)) _ _ _ _ _ e1 S1 .int h1⟩
  · exact h1.elim
end DL
namespace DL
open PySem PySem.Spec PyProof.Rows L2
/-! ### a call that only reads what it is handed, and tells something plain -/
/-- nothing but plain things in it -/
def flatR : R → Prop
  | .sh d => (plainV d).isSome = true
  | .fr (.dct kvs) => ∀ kv ∈ kvs, (plainV kv.2).isSome = true
  | .fr (.lst ds) => ∀ d ∈ ds, (plainV d).isSome = true
  | _ => False
def brs : List R → List Nat
  | [] => []
  | .br i :: rs => i :: brs rs
  | _ :: rs => brs rs
section
variable {K : PySem.W.Frag} {G : Gh} {tmp : List (Addr × HO)} {F F' : Addr → Prop} {σ σ2 : St} {H H' : Hp} {env env2 : EnvD} {fp fp2 : Nat → List Addr}
theorem plain_any {d : D} {v : V} (p : (plainV d).isSome = true) (h : Dat K F H d v) : Dat K F' H' d v := by
  obtain ⟨u, e⟩ := Option.isSome_iff_exists.mp p
  have := (plain_lk (.inl h) e).1
  subst this
  exact plainV_dat e
theorem plain_anyK : ∀ {kvs : List (Key × D)} {ks : List (Key × V)}, (∀ kv ∈ kvs, (plainV kv.2).isSome = true) → DatK K F H kvs ks → DatK K F' H' kvs ks
  | _, _, _, .nil => .nil
  | _, _, p, .cons h t => .cons (plain_any (p _ List.mem_cons_self) h) (plain_anyK (fun kv hk => p kv (List.mem_cons_of_mem _ hk)) t)
theorem plain_anys : ∀ {ds : List D} {vs : List V}, (∀ d ∈ ds, (plainV d).isSome = true) → Dats K F H ds vs → Dats K F' H' ds vs
  | _, _, _, .nil => .nil
  | _, _, p, .cons h t => .cons (plain_any (p _ List.mem_cons_self) h) (plain_anys (fun d hd => p d (List.mem_cons_of_mem _ hd)) t)
/-- what the callee may read -/
def FB (F : Addr → Prop) (fp : Nat → List Addr) (is : List Nat) : Addr → Prop := fun a => F a ∨ ∃ i ∈ is, a ∈ fp i
theorem dats_B (S : SR K G tmp F σ H env fp) {is : List Nat} : ∀ {rs : List R} {vs : List V} {ds : List D}, RVs K G tmp F σ H env fp vs rs → pks env rs = some ds → (∀ i ∈ brs rs, i ∈ is) → (∀ i ∈ brs rs, ∃ xs, pk env (.br i) = some (.lst xs)) → Dats K (FB F fp is) H ds vs
  | [], _, _, .nil, h, _, _ => by cases h; exact .nil
  | .sh d :: rs, _, ds, .sh q t, h, hi, hl => by
    have h : (match some d, pks env rs with | some d, some ds => some (d :: ds) | _, _ => none) = some ds := h
    cases e : pks env rs with
    | none => rw [e] at h; cases h
    | some es =>
      rw [e] at h
      cases h
      exact .cons (q.mono fun a f => ⟨.inl f, Kp.refl⟩) (dats_B S t e hi hl)
  | .br i :: rs, _, ds, .br q t, h, hi, hl => by
    have h : (match pk env (.br i), pks env rs with | some d, some ds => some (d :: ds) | _, _ => none) = some ds := h
    obtain ⟨xs, p⟩ := hl i List.mem_cons_self
    rw [p] at h
    cases e : pks env rs with
    | none => rw [e] at h; cases h
    | some es =>
      rw [e] at h
      cases h
      refine .cons ?_ (dats_B S t e (fun j hj => hi j (List.mem_cons_of_mem _ hj)) fun j hj => hl j (List.mem_cons_of_mem _ hj))
      obtain ⟨a, s1, s2, ow, _⟩ := S.slot p
      rw [q] at s1
      cases s1
      obtain ⟨us, h1, r⟩ := ow
      exact .lst (.inr ⟨i, hi i List.mem_cons_self, by rw [s2]; exact List.mem_singleton.mpr rfl⟩) h1 (r.mono fun a f => ⟨.inl f, Kp.refl⟩)
/-- the callee's start -/
theorem SR.enterB (S : SR K G tmp F σ H env fp) {is : List Nat} {vs : List V} {ds : List D} (r : Dats K (FB F fp is) H ds vs) : SR K ⟨H, FB F fp is, [], G.T, vs.map some⟩ [] (FB F fp is) (vs.map some) H (ds.map Sl.im) (fun _ => []) := by
  have l := r.length
  refine ⟨by simp [l], fun j s h => ?_, fun i j a h => (by cases h), fun i a h => (by cases h), fun i a h => (by cases h), fun i d h a ha => (by cases ha), fun i a h => (by cases h), fun p hp => (by cases hp), fun a f => ?_, fun a o h _ _ => h, fun a f => ⟨f, Kp.refl⟩, fun a f => .inl f, S.tabs, fun a h => (by cases h), fun j s h _ _ => rfl, (by simp [l]), fun p hp => (by cases hp)⟩
  · rw [List.getElem?_map] at h
    obtain ⟨d, hd, rfl⟩ := Option.map_eq_some_iff.mp h
    obtain ⟨v, h1, h2⟩ := r.get hd
    exact ⟨some v, by rw [List.getElem?_map, h1]; rfl, rfl, v, rfl, h2⟩
  · rcases f with f | ⟨i, _, f⟩
    · exact S.dom a f
    · exact S.own i a f
/-- .. and its end: all is as before -/
theorem SR.leaveB (S : SR K G tmp F σ H env fp) {is : List Nat} {vs : List V} (hl : ∀ i ∈ is, ∃ xs, pk env (.br i) = some (.lst xs)) {tmp2 : List (Addr × HO)} (S2 : SR K ⟨H, FB F fp is, [], G.T, vs.map some⟩ tmp2 F' σ2 H' env2 fp2) : Ext F H F H' ∧ SR K G tmp F σ H' env fp := by
  have kp : ∀ a, F a → Kp (H' a) (H a) := fun a f => (S2.keepF a (.inl f)).2
  have stay : ∀ a o, H a = some o → ¬ F a → H' a = some o := fun a o h1 h2 => by
    by_cases z : ∃ i ∈ is, a ∈ fp i
    · obtain ⟨i, hi, ha⟩ := z
      obtain ⟨xs, p⟩ := hl i hi
      obtain ⟨b, s1, s2, ow, _⟩ := S.slot p
      rw [s2] at ha
      have e := List.mem_singleton.mp ha
      subst e
      obtain ⟨us, h3, _⟩ := ow
      rw [h1] at h3
      cases h3
      have k := (S2.keepF a (.inr ⟨i, hi, by rw [s2]; exact ha⟩)).2
      exact vw_of_lst (k.1.trans (show vw (H a) = _ by rw [h1]; rfl))
    · exact S2.keepN a o h1 (fun y => by cases y) fun y => y.elim h2 z
  have own : ∀ i a, a ∈ fp i → H' a = H a := fun i a h => by
    obtain ⟨o, ho, _⟩ := S.own i a h
    rw [ho]
    exact stay a o ho (S.nf i a h)
  refine ⟨fun a f => ⟨f, kp a f⟩, S.gen S.len (Nat.le_refl _) (fun _ => False) (fun _ w => w.elim) ⟨fun a o h n _ => stay a o h n, kp, fun a o h => ?_⟩ (fun _ f => f) (fun j s h => .inl ⟨h, rfl, rfl, fun a ha => own j a ha⟩) S.dj S.nf (fun i a h => .inl h) (fun j d h => .inl ⟨h, rfl⟩) (fun i a h => ?_) (fun p hp => ⟨(S.tm p hp).2.1, (S.tm p hp).2.2.2⟩) (fun a f => ?_) (fun a f => .inl f)⟩
  · by_cases z : F a
    · obtain ⟨o2, h2, _⟩ := S2.dom a (S2.keepF a (.inl z)).1
      exact ⟨o2, h2⟩
    · exact ⟨o, stay a o h z⟩
  · obtain ⟨o, ho, d⟩ := S.own i a h
    exact ⟨o, by rw [own i a h]; exact ho, d⟩
  · exact S2.dom a (S2.keepF a (.inl f)).1
theorem RV.leaveB (S : SR K G tmp F σ H env fp) {is : List Nat} {vs : List V} (S2 : SR K ⟨H, FB F fp is, [], G.T, vs.map some⟩ [] F' σ2 H' env2 fp2) {v : V} {r : R} (f : flatR r) (r2 : RV K ⟨H, FB F fp is, [], G.T, vs.map some⟩ [] F' σ2 H' env2 fp2 v r) : RV K G tmp F σ H' env fp v r := by
  cases r with
  | sh d => exact plain_any f r2
  | br i => exact f.elim
  | fr d =>
    obtain ⟨a, rfl, ow, h1, h2, h3, h4⟩ := r2
    have h3 : H a = none := h3
    have out : ¬ F a := S.newF h3
    cases d with
    | lst ds =>
      obtain ⟨us, g1, g2⟩ := ow
      exact ⟨a, rfl, ⟨us, g1, plain_anys f g2⟩, out, S.newFp h3, S.newG h3, S.newT h3⟩
    | dct kvs =>
      obtain ⟨ks, g1, g2⟩ := ow
      exact ⟨a, rfl, ⟨ks, g1, plain_anyK f g2⟩, out, S.newFp h3, S.newG h3, S.newT h3⟩
    | _ => exact f.elim
end
def wCallR (sem : Sem) (wr : WA) : WE := fun env Q => wr env fun rs env1 => match pks env1 rs with
  | some ds => (∀ i ∈ brs rs, ∃ xs, pk env1 (.br i) = some (.lst xs)) ∧ sem (ds.map Sl.im) (fun r _ => flatR r ∧ Q r env1) (fun _ _ => False)
  | none => False
section
variable {X : Cx} {G : Gh} {k m : Nat} {x : Str} {ps : List Str} {sem : Sem} {p pos : Pos} {e : Expr} {es : List Expr} {wr : WA}
theorem lift_callR {K : PySem.W.Frag} {σ : St} {H : Hp} {Q : VK} (h : lift K G (wCallR sem wr) σ H Q) : liftA K G m wr σ H fun vs H1 => spD K m sem (vs ++ []) H1 Q E0 := by
  obtain ⟨tmp, F, env, fp, Qd, S, h, k⟩ := h
  refine ⟨tmp, F, env, fp, _, S, h, fun rs env1 vs H1 F1 fp1 hl e1 S1 r1 h1 => ?_⟩
  show spD K m sem (vs ++ []) H1 Q E0
  rw [List.append_nil]
  split at h1
  · rename_i ds hp
    obtain ⟨hb, hs⟩ := h1
    have r := dats_B S1 (is := brs rs) r1 hp (fun _ z => z) hb
    have lr := r1.length
    refine ⟨by rw [lr, hl], _, _, _, _, _, _, SR.enterB S1 r, rfl, hs, fun r v F' σ' H' env' fp' S' r' q => ?_, fun x cv od tmp F σ H env fp _ _ z => z.elim⟩
    obtain ⟨e2, S2⟩ := S1.leaveB hb S'
    exact k _ _ _ _ _ _ (e1.trans e2) S2 (RV.leaveB S1 S' q.1 r') q.2
  · exact h1.elim
theorem de_cR (O : OkX X k x ps sem) (hr : Room k X.A) (hg : Gl X x) (ha : DA X G (e :: es) m wr) (hn : m = ps.length := by rfl) (hdb : (x == ("__debug__" : Str)) = false := by decide)
    (he : starEach (e :: es) X.env = (false, eval e X.env) :: starEach es X.env := by rfl) (hpl : (backTo pos (starEach es X.env)).any (·.1) = false := by rfl) : DE X G (.Call (.Name x p) (e :: es) [] pos) (wCallR sem wr) := by
  obtain ⟨⟨fd, F, b⟩, kp, hm⟩ := O
  subst hn
  exact PE.imp (pe_call F hr hg hm kp b .nil pass0 ha hdb he hpl) fun _ _ _ h => lift_callR h
end
end DL
namespace DL
open PySem PySem.Spec PyProof.Rows L2
/-! ### o[i] op= e -/
def rGetL (K : PySem.W.Frag) : R2 := fun x y H Q => ∃ p xs i v, x = .ref p ∧ y = .int i ∧ 0 ≤ i ∧ SqL K H p xs ∧ atI xs i = some v ∧ Q v H
section
variable {X : Cx}
theorem get_listP : PGet X (rGetL X.K) := by
  intro pins s σ H x y v u Q I rx ry h
  obtain ⟨p, xs, i, z, rfl, rfl, h0, hq, he, q⟩ := h
  cases rx
  obtain ⟨t, rfl⟩ := ry
  obtain ⟨its, r, pl, hz⟩ := I.list hq
  obtain ⟨j, h1, h2, h3, h4, h5⟩ := atI_get he
  obtain ⟨w, ew, rw'⟩ := r.get h2
  have hl := r.length
  have hn := line63
  have hj : i.toNat = j := by
    rw [seqIndex_of h0 h5] at h1
    exact Option.some.inj h1
  exact wpAny_getItem_list pl.isList h0 (by omega) (by rw [hj]; simpa using ew) ⟨z, H, I, rw', q⟩
theorem get_dctP (hu : X.A.units + 1 < cLine) : PGet X rIxDct := by
  intro pins s σ H x y v u Q I rx ry h
  obtain ⟨a, z, rfl, g, q⟩ := h
  cases rx
  exact d_getItem hu I g ry fun w' s3 I3 rw' => ⟨z, H, I3, rw', q⟩
theorem PGet.or {r r' : V → V → Hp → VK → Prop} (h : PGet X r) (h' : PGet X r') : PGet X (fun o i H Q => r o i H Q ∨ r' o i H Q) := by
  intro pins s σ H o i ov iv Q I ro ri q
  rcases q with q | q
  · exact h pins s σ H o i ov iv Q I ro ri q
  · exact h' pins s σ H o i ov iv Q I ro ri q
end
def getAt (c key : D) : Option D := match c, key with
  | .lst xs, .int i => if 0 ≤ i then atI xs i else none
  | .dct kvs, k => (kD k).bind (vD kvs)
  | _, _ => none
def sAugIx (g : Int → Int → Int) (wo wi we : WE) : WS := fun env D => wo env fun ro env1 => wi env1 fun ri env2 => match ro, pk env2 ri with
  | .br j, some key => (match pk env2 (.br j) with
    | some c => (match getAt c key with
      | some (.int a) => we env2 fun r env3 => (match pk env3 r with
        | some (.int b) => pk env3 (.br j) = some c ∧ (plainV key).isSome = true ∧ putAt c key (.int (g a b)) fun c' => D.nx (setD env3 j c')
        | _ => False)
      | _ => False)
    | none => False)
  | _, _ => False
theorem getAt_rd {K : PySem.W.Frag} {F : Addr → Prop} {H : Hp} {c key d : D} {x y : V} {Q : VK} (lc : Lk K F H c x) (lk : Lk K F H key y) (h : getAt c key = some d) (q : ∀ v, Dat K F H d v → Q v H) : rGetL K x y H Q ∨ rIxDct x y H Q := by
  unfold getAt at h
  split at h
  · rename_i xs i
    split at h
    · rename_i h0
      obtain ⟨a, vs, rfl, h1, r1⟩ := lc.lst
      obtain ⟨z, h2, h3⟩ := atI_dat r1 h
      exact .inl ⟨a, vs, i, z, rfl, lk.int, h0, .of h1, h2, q z h3⟩
    · cases h
  · rename_i kvs
    obtain ⟨key, h1, h2⟩ := Option.bind_eq_some_iff.mp h
    obtain ⟨a, ks, rfl, h3, r1⟩ := lc.dct
    rcases r1.val key with ⟨z, _⟩ | ⟨d2, v2, h4, h5, h6⟩
    · rw [z] at h2; cases h2
    · rw [h4] at h2
      cases h2
      have e := kD_lk lk h1
      exact .inr ⟨a, v2, rfl, .inl ⟨ks, key, h3, e, h5.symm⟩, q v2 h6⟩
  · cases h
section
variable {X : Cx} {G : Gh} {o b e : Expr} {wo wi we : WE} {pos tpos : Pos}
theorem ds_augIx {g : Int → Int → Int} {op : Operator} (hu : X.A.units + 64 < cLine) (ho : DE X G o wo) (hi : DE X G b wi) (he : DE X G e we) (hp : PIp X op (ipI g))
    (ha : ∀ ov iv new, augStore b ov iv new = (do holding [new, ov, iv] (setItem ov iv new); release [new, ov, iv] []; pure .next) := by intros; rfl) : DS X G (.AugAssign (.Subscript o b tpos) op e pos) (sAugIx g wo wi we) := by
  refine PS.imp (ps_augS ho hi (PGet.or get_listP (get_dctP (by omega))) he hp (PSet.or set_list (set_dict (by omega))) ha) fun D σ H h => ?_
  obtain ⟨tmp, F, env, fp, Dd, S, h, k⟩ := h
  refine lift2 S h fun ro ri env2 x y H2 F2 fp2 e2 S2 r1 r2 h2 => ?_
  split at h2
  · rename_i j key hk
    split at h2
    · rename_i c hc
      split at h2
      · rename_i a hg
        have ly := Lk.of_pk S2 r2 hk
        refine getAt_rd (Lk.of_pk S2 r1 hc) ly hg fun v rv => ?_
        cases rv
        refine lift1 S2 h2 fun r env3 z H3 F3 fp3 e3 S3 r3 h3 => ?_
        split at h3
        · rename_i bb hb
          obtain ⟨p1, p2, p3⟩ := h3
          refine ⟨a, bb, rfl, (Lk.of_pk S3 r3 hb).int, ?_⟩
          have r1' := r1.mono (env' := env3) (fp' := fp3) e3
          have lk3 : Lk X.K F3 H3 key y := by
            obtain ⟨u, eu⟩ := Option.isSome_iff_exists.mp p2
            have := (plain_lk ly eu).1
            subst this
            exact .inl (plainV_dat eu)
          exact put_core S3 r1' p1 lk3 .int p3 fun c' H' fp' e5 S5 q => k.nx _ _ _ _ _ ((e2.trans e3).trans e5) S5 q
        · exact h3.elim
      · exact h2.elim
    · exact h2.elim
  · exact h2.elim
end
/-! ### a, b, c = x, y, k with a written k -/
def sPar3 (i j l : Nat) (wa wb : WE) (d : D) : WS := fun env De => sPar i j wa wb env { De with nx := fun e => l < e.length ∧ De.nx (e.set l (.im d)) }
section
variable {X : Cx} {G : Gh} {e o c : Expr} {wa wb : WE} {pos : Pos}
theorem ds_par3 (i j l : Nat) {d : D} {v3 : V} {x y z : Str} {px py pz pt : Pos} {kt k2 : Nat} {pt2 : Pos} (hc : X.calm = true) (hN : X.N.Nodup) (hi : X.N[i]? = some x) (hj : X.N[j]? = some y) (hl : X.N[l]? = some z) (hij : i ≠ j) (hil : i ≠ l) (hjl : j ≠ l)
    (hx : X.env.scope.names.lookup x = some .local) (hy : X.env.scope.names.lookup y = some .local) (hz : X.env.scope.names.lookup z = some .local) (ha : DE X G e wa) (hb : DE X G o wb) (hk : PE X c (tC v3)) (hd : plainV d = some v3)
    (hw : swappedStores [.Tuple [.Name x px, .Name y py, .Name z pz] kt pt] (.Tuple [e, o, c] k2 pt2) X.env = pure (some [x, y, z]))
    (h1 : starEach [e, o, c] X.env = (false, eval e X.env) :: starEach [o, c] X.env := by rfl) (h2 : starEach [o, c] X.env = (false, eval o X.env) :: starEach [c] X.env := by rfl) (h3 : starEach [c] X.env = (false, eval c X.env) :: starEach [] X.env := by rfl)
    (hs : swapsWithSole [.Tuple [.Name x px, .Name y py, .Name z pz] kt pt] (.Tuple [e, o, c] k2 pt2) pos.line X.env = pure false := by rfl) :
    DS X G (.Assign [.Tuple [.Name x px, .Name y py, .Name z pz] kt pt] (.Tuple [e, o, c] k2 pt2) pos) (sPar3 i j l wa wb d) := by
  refine PS.imp (ps_par3 hc hN hi hj hl hij hil hjl hx hy hz (pa_cons ha (pa_cons hb (pa_cons hk pa_nil h3) h2) h1) hw hs) fun De σ H h => ?_
  have h' : liftS X.K G (sPar i j wa wb) { De with nx := fun σ H => De.nx (σ.set l (some v3)) H } σ H := by
    obtain ⟨tmp, F, env, fp, Dd, S, h, k⟩ := h
    exact ⟨tmp, F, env, fp, _, S, h, fun env' σ' H' F' fp' e' S' q => k.nx _ _ _ _ _ e' (S'.setIm q.1 (plainV_dat hd)) q.2, k.rt, k.bk, k.ct⟩
  exact lift.mono (lift_par h') fun v H1 q => lift.mono q fun w H2 q => ⟨v, w, v3, rfl, q⟩
end
/-! ### zip -/
def lsT : D → Option (List D)
  | .lst xs => some xs
  | .tup xs => some xs
  | _ => none
def zipD : List D → List D → List D
  | x :: xs, y :: ys => .tup [x, y] :: zipD xs ys
  | _, _ => []
theorem zipD_get : ∀ (xs ys : List D) (i : Nat) (d : D), (zipD xs ys)[i]? = some d → ∃ x y, xs[i]? = some x ∧ ys[i]? = some y ∧ d = .tup [x, y]
  | [], ys, i, d, h => by cases ys <;> simp [zipD] at h
  | _ :: _, [], i, d, h => by simp [zipD] at h
  | x :: xs, y :: ys, 0, d, h => by simp [zipD] at h; exact ⟨x, y, rfl, rfl, h.symm⟩
  | x :: xs, y :: ys, i + 1, d, h => by
    obtain ⟨a, b, h1, h2, h3⟩ := zipD_get xs ys i d (by simpa [zipD] using h)
    exact ⟨a, b, by simpa using h1, by simpa using h2, h3⟩
theorem zipD_length : ∀ (xs ys : List D), (zipD xs ys).length = min xs.length ys.length
  | [], ys => by cases ys <;> simp [zipD]
  | _ :: _, [] => by simp [zipD]
  | x :: xs, y :: ys => by simp only [zipD, List.length_cons, zipD_length xs ys]; omega
def wZip (wr : WA) : WI := fun env Q => wr env fun rs env1 => fzs rs env1 fun ds env2 => match ds with
  | [d, e] => (match lsT d, lsT e with
    | some xs, some ys => Q (zipD xs ys) env2
    | _, _ => False)
  | _ => False
theorem sqm_of {K : PySem.W.Frag} {F : Addr → Prop} {H : Hp} {d : D} {v : V} {xs : List D} (h : Dat K F H d v) (e : lsT d = some xs) : ∃ b a us, v = .ref a ∧ (∀ F2 H2, Ext F H F2 H2 → SqM b K H2 a us) ∧ Dats K F H xs us := by
  cases d with
  | lst ys =>
    cases e
    cases h with
    | lst f h r => exact ⟨false, _, _, rfl, fun F2 H2 e => .of (vw_of_lst ((e _ f).2.1.trans (by rw [h]; rfl))), r⟩
  | tup ys =>
    cases e
    obtain ⟨a, rfl⟩ : ∃ a, v = .ref a := by cases h <;> exact ⟨_, rfl⟩
    obtain ⟨vs, h1, h2, h3⟩ := h.tupA
    exact ⟨true, a, vs, rfl, h2, h3⟩
  | _ => cases e
theorem di_zip {X : Cx} {G : Gh} {e o : Expr} {wr : WA} {n : Nat} {p pos tpos : Pos} {elts : List Expr} {kk : Nat} (hg : Gl X "zip") (hm : X.mg "zip" = none) (ha : DA X G [e, o] n wr) (hs : starEach [e, o] X.env = (false, eval e X.env) :: starEach [o] X.env := by rfl) (hpl : (backTo pos (starEach [o] X.env)).any (·.1) = false := by rfl) :
    DI X G (.Tuple elts kk tpos) (.Call (.Name "zip" p) [e, o] [] pos) (wZip wr) := by
  refine PI.imp (pi_zm hg hm ha hs hpl) fun σ H R h => ?_
  obtain ⟨tmp, F, env, fp, Qd, S, h, k⟩ := h
  refine ⟨tmp, F, env, fp, _, S, h, fun rs env1 vs H1 F1 fp1 hl e1 S1 r1 h1 => ?_⟩
  obtain ⟨ds, env2, F2, fp2, S2, e2, r2, _, h2⟩ := S1.freezes r1 h1
  split at h2
  · rename_i d1 d2 _
    split at h2
    · rename_i xs ys q1 q2
      cases r2 with
      | cons t1 r2 =>
        cases r2 with
        | cons t2 r2 =>
          cases r2
          obtain ⟨b1, a1, us, rfl, l1, d1⟩ := sqm_of t1 q1
          obtain ⟨b2, a2, ws, rfl, l2, d2⟩ := sqm_of t2 q2
          refine ⟨b1, b2, a1, a2, us, ws, rfl, l1 _ _ Ext.refl, l2 _ _ Ext.refl, k _ _ _ _ _ _ (e1.trans e2) S2 ?_ h2⟩
          intro tmp F3 σ3 H3 env3 fp3 e3 S3 i
          have g1 := l1 _ _ e3
          have g2 := l2 _ _ e3
          refine ⟨fun d hd => ?_, fun hi => ⟨us, ws, g1, g2, ?_⟩⟩
          · obtain ⟨x, y, hx, hy, rfl⟩ := zipD_get xs ys i d hd
            obtain ⟨v, hv, rv⟩ := (d1.mono e3).get hx
            obtain ⟨u, hu, ru⟩ := (d2.mono e3).get hy
            refine ⟨⟨us, ws, v, u, g1, g2, hv, hu⟩, fun z H4 yl => ?_⟩
            obtain ⟨T, x', y', rfl, nT, rfl, f1, f2⟩ := yl
            have c1 := f1 _ g1
            have c2 := f2 _ g2
            rw [hv] at c1
            rw [hu] at c2
            cases c1
            cases c2
            obtain ⟨S4, e4⟩ := S3.newSh nT (o := .tup [v, u]) rfl
            exact ⟨_, S4, e4, Dat.tup (.inr rfl) upd_same (.cons (rv.mono e4) (.cons (ru.mono e4) .nil))⟩
          · rw [zipD_length] at hi
            have m1 := d1.length
            have m2 := d2.length
            omega
    · exact h2.elim
  · exact h2.elim
end DL
namespace DL
open PySem PySem.Spec PyProof.Rows L2
/-! ### x in xs, plain things at any depth -/
def OkIn (a : D) (xs : List D) : Prop := seqD a = true ∧ seqDs xs = true ∧ (pyD a).canLay0 = true ∧ PyData.canLayAll0 (pyDs xs) = true ∧ (pyD a).depth ≤ 40
def inD (a : D) (xs : List D) : Bool := (pyDs xs).any fun y => PyData.eqv y (pyD a)
def fInT (ng : Bool) : Op2 := fun a b Q => match b with
  | .lst xs => OkIn a xs ∧ Q (.sh (.bl (if ng then !inD a xs else inD a xs)))
  | .tup xs => OkIn a xs ∧ Q (.sh (.bl (if ng then !inD a xs else inD a xs)))
  | _ => False
def rInT (K : PySem.W.Frag) (ng : Bool) : R2 := fun x y H Q => ∃ (F : Addr → Prop) (a b : D) (xs : List D), Lk K F H a x ∧ Lk K F H b y ∧ (b = .lst xs ∨ b = .tup xs) ∧ OkIn a xs ∧ Q (.bl (if ng then !inD a xs else inD a xs)) H
section
variable {X : Cx} {G : Gh}
theorem op_inT (hu : X.A.units + 64 < cLine) : OpR X (compareOp .In) (rInT X.K false) := by
  intro pins s σ H x y v u Q I rx ry h
  obtain ⟨F, a, b, xs, lx, ly, hb, ⟨o1, o2, o3, o4, o5⟩, q⟩ := h
  obtain ⟨as, r1⟩ := lx.reads I.hok I.kIn rx o1
  have m : min (PyData.depthAll (pyDs xs)) (pyD a).depth ≤ 40 := Nat.le_trans (Nat.min_le_right _ _) o5
  rcases hb with rfl | rfl
  · obtain ⟨bs, r2⟩ := ly.reads I.hok I.kIn ry o2
    exact SeqAt.in_list_reads r2 r1 o4 o3 (by omega) ⟨.bl _, H, I, rfl, q⟩
  · obtain ⟨bs, r2⟩ := ly.reads I.hok I.kIn ry o2
    exact SeqAt.in_tuple_reads r2 r1 o4 o3 (by omega) ⟨.bl _, H, I, rfl, q⟩
theorem op_ninT (hu : X.A.units + 64 < cLine) : OpR X (compareOp .NotIn) (rInT X.K true) := by
  intro pins s σ H x y v u Q I rx ry h
  obtain ⟨F, a, b, xs, lx, ly, hb, ⟨o1, o2, o3, o4, o5⟩, q⟩ := h
  obtain ⟨as, r1⟩ := lx.reads I.hok I.kIn rx o1
  have m : min (PyData.depthAll (pyDs xs)) (pyD a).depth ≤ 40 := Nat.le_trans (Nat.min_le_right _ _) o5
  rcases hb with rfl | rfl
  · obtain ⟨bs, r2⟩ := ly.reads I.hok I.kIn ry o2
    exact SeqAt.notIn_list_reads r2 r1 o4 o3 (by omega) ⟨.bl _, H, I, rfl, q⟩
  · obtain ⟨bs, r2⟩ := ly.reads I.hok I.kIn ry o2
    exact SeqAt.notIn_tuple_reads r2 r1 o4 o3 (by omega) ⟨.bl _, H, I, rfl, q⟩
theorem od_inT {K : PySem.W.Frag} (ng : Bool) : OpD K G (rInT K ng) (fInT ng) := by
  intro tmp F env fp σ H da db v u Qd Q S l1 l2 hf k
  unfold fInT at hf
  split at hf
  · rename_i xs
    exact ⟨F, da, _, xs, l1, l2, .inl rfl, hf.1, k (.sh (.bl _)) _ _ _ Ext.refl S .bl hf.2⟩
  · rename_i xs
    exact ⟨F, da, _, xs, l1, l2, .inr rfl, hf.1, k (.sh (.bl _)) _ _ _ Ext.refl S .bl hf.2⟩
  · exact hf.elim
theorem cm_inT (hu : X.A.units + 64 < cLine) : Cm X G .In (fInT false) := ⟨_, op_inT hu, od_inT false⟩
theorem cm_ninT (hu : X.A.units + 64 < cLine) : Cm X G .NotIn (fInT true) := ⟨_, op_ninT hu, od_inT true⟩
end
end DL
namespace DL
open PySem PySem.Spec PyProof.Rows L2
section
variable {X : Cx} {G : Gh} {kx vx t0 i0 : Expr} {f0 : List Expr} {scope : Scope} {pos : Pos} {w0 : WI} {g0 : WG} {c0 : WT} {wk wv : WE}
/-- y = {k: v for ..} on one line -/
theorem ds_setDc1 {y : Str} {py spos : Pos} (k : Nat) {own : List (Str × Nat)} (hc : X.calm = true) (hN : X.N.Nodup) (hi : DI X G t0 i0 w0) (ok : BlkOk X.N X.env.scope scope own)
    (hg0 : ∀ (s : Shared) (H : Hp) (C : Addr) (cl : List (Str × Addr)) (fp : List Addr), DG (X.blk s H scope (compEnvC scope cl C X.env) fp) G t0 (own.map (·.2)) g0) (ht0 : ∀ (s : Shared) (H : Hp) (C : Addr) (cl : List (Str × Addr)) (fp : List Addr), PTs (X.blk s H scope (compEnvC scope cl C X.env) fp) f0 (liftT X.K G c0))
    (hk : ∀ (s : Shared) (H : Hp) (C : Addr) (cl : List (Str × Addr)) (fp : List Addr), DE (X.blk s H scope (compEnvC scope cl C X.env) fp) G kx wk) (hv : ∀ (s : Shared) (H : Hp) (C : Addr) (cl : List (Str × Addr)) (fp : List Addr), DE (X.blk s H scope (compEnvC scope cl C X.env) fp) G vx wv)
    (hy : X.N[k]? = some y := by rfl) (hyl : X.env.scope.names.lookup y = some .local := by rfl) (hsw : swapsWith (.DictComp kx vx [⟨t0, i0, f0, 0⟩] scope pos) (some (.Name y py)) spos.line X.env = pure true := by rfl)
    (hs : ∀ x, foldedSetIterable i0 X.env x = pure x := by intro _; rfl) : DS X G (.Assign [.Name y py] (.DictComp kx vx [⟨t0, i0, f0, 0⟩] scope pos) spos) (sSet k (wDcN w0 g0 c0 (wbLast wk wv) (own.map (·.2)))) := by
  refine PS.imp (ps_setDcN (wb := []) (tb := fun D => liftB X.K G (wbLast wk wv) [] D) (bd := fun D env n => lastB kx vx (.ref D) env >>= fun _ => n) hc hN hi ok (fun i h => (by cases h)) (fun _ _ _ => turn_last rfl rfl) hg0 ht0
    (fun s H C cl fp D => NB.imp (nb_last rfl (hk s H C cl fp) (hv s H C cl fp)) fun _ _ _ h => lift_last h) hs hy hyl hsw) fun D σ H h => lift_dcN (fun i h => (by cases h)) ?_
  obtain ⟨tmp, F, env, fp, Dd, S, h, kk⟩ := h
  refine ⟨tmp, F, env, fp, _, S, h, fun r env1 v H1 F1 fp1 e1 S1 r1 h1 => ?_⟩
  obtain ⟨env2, F2, fp2, S2, e2, h2⟩ := S1.setSl r1 h1
  exact kk.nx _ _ _ _ _ (e1.trans e2) S2 h2
end
/-! ### a, b = x, y where a name is a cell: the tuple is made, then taken apart -/
section
variable {X : Cx} {G : Gh} {e o : Expr} {wa wb : WE} {pos : Pos}
theorem ds_parT (i j : Nat) {x y : Str} {px py pt : Pos} {kt k2 : Nat} {pt2 : Pos} (hc : X.calm = true) (hN : X.N.Nodup) (hi : X.N[i]? = some x) (hj : X.N[j]? = some y) (hx : Loc X.env.scope x) (hy : Loc X.env.scope y) (hfx : X.fn x = true ∨ X.env.scope.names.lookup x = some .local) (hfy : X.fn y = true ∨ X.env.scope.names.lookup y = some .local) (ha : DE X G e wa) (hb : DE X G o wb)
    (h1 : starEach [e, o] X.env = (false, eval e X.env) :: starEach [o] X.env := by rfl) (h2 : starEach [o] X.env = (false, eval o X.env) :: starEach [] X.env := by rfl)
    (hs : swapsWithSole [.Tuple [.Name x px, .Name y py] kt pt] (.Tuple [e, o] k2 pt2) pos.line X.env = pure false := by rfl) (hw : swappedStores [.Tuple [.Name x px, .Name y py] kt pt] (.Tuple [e, o] k2 pt2) X.env = pure none := by rfl) :
    DS X G (.Assign [.Tuple [.Name x px, .Name y py] kt pt] (.Tuple [e, o] k2 pt2) pos) (sPar i j wa wb) := by
  refine PS.imp (ps_asg (pe_tup (pa_cons ha (pa_cons hb pa_nil h2) h1)) (pg_tup hc (pgs_cons (pg_name hN hi hx hfx) (pgs_cons (pg_name hN hj hy hfy) pgs_nil))) hs hw) fun De σ H h => ?_
  have h' : liftS X.K G (sPar i j wa wb) { De with nx := fun σ' H' => ∀ T u, H' T = none → De.nx σ' (upd H' T u) } σ H := by
    obtain ⟨tmp, F, env, fp, Dd, S, h, k⟩ := h
    exact ⟨tmp, F, env, fp, _, S, h, fun env' σ' H' F' fp' e' S' q T u hT => k.nx _ _ _ _ _ (e'.trans (Ext.upd (S'.newF hT))) (S'.alloc hT) q, k.rt, k.bk, k.ct⟩
  refine lift.mono (lift_par h') fun v H1 q => lift.mono q fun w H2 q => ?_
  refine ⟨by rw [sizeLine_eq]; exact (by decide : 2 ≤ 16777216), fun T hT => ⟨T, [v, w], rfl, .of upd_same, rfl, v, [w], rfl, w, [], rfl, rfl, q T _ hT⟩⟩
end
end DL
namespace K28
open PySem PySem.Spec PyProof.Rows L2 DL
open C8 (InsC)
def top (i : Nat) : Stmt := PySem.Challenge.pw_anywidths_k28_whole_rounds_of_small_nets.main.body.getD i (.Pass ⟨0, 0, 0, 0⟩)
def mth (i j : Nat) : Stmt := match top i with
  | .ClassDef _ _ _ b _ _ _ _ _ _ _ => b.getD j (.Pass ⟨0, 0, 0, 0⟩)
  | _ => .Pass ⟨0, 0, 0, 0⟩
abbrev FnP (K : PySem.W.Frag) (x : Str) (st : Stmt) (f : Addr) (fd : FuncData) : Prop := FunD K x x (defArgs st) (defBody st) (defScope st) [] [] f fd
/-! ### what the program's words mean over data -/
def i_int : D → Option Bool := isA (fun k => k == "int" || k == "bool") (ownT [("Sum", false), ("Loop", false)])
def i_bool : D → Option Bool := isA (fun k => k == "bool") (ownT [("Sum", false), ("Loop", false)])
def i_str : D → Option Bool := isA (fun k => k == "str") (ownT [("Sum", false), ("Loop", false)])
def i_dict : D → Option Bool := isA (fun k => k == "dict") (ownT [("Sum", false), ("Loop", false)])
def i_tuple : D → Option Bool := isA (fun k => k == "tuple") (ownT [("Sum", false), ("Loop", false)])
def i_list_tuple : D → Option Bool := isA (fun k => k == "list" || k == "tuple") (ownT [("Sum", false), ("Loop", false)])
def i_Sum : D → Option Bool := isA (fun _ => false) (ownT [("Sum", true), ("Loop", false)])
def i_Loop : D → Option Bool := isA (fun _ => false) (ownT [("Sum", false), ("Loop", true)])
/-- a thing of which the kinds are known -/
def okD : D → Bool
  | .ins c _ => c == "Sum" || c == "Loop"
  | .str x => decide (x.length ≤ sizeLine)
  | .exc _ _ => false
  | _ => true
def isNum : D → Bool
  | .int _ => true
  | _ => false
def isFrom (d : D) (n : Int) : Bool := match d with
  | .int i => decide (n ≤ i)
  | _ => false
def letters : Str := "abcdefghijklmnopqrstuvwxyz"
def nameOk (x : Str) : Bool := decide (1 ≤ x.length ∧ x.length ≤ 8) && x.cps.toList.all fun c => decide (c ∈ letters.cps.toList)
def isName : D → Bool
  | .str x => nameOk x
  | _ => false
def s_is_number : Sem := fun args Q _ => ∃ d, args = [.im d] ∧ okD d = true ∧ Q (.sh (.bl (isNum d))) args
def s_is_from : Sem := fun args Q _ => ∃ d n, args = [.im d, .im (.int n)] ∧ okD d = true ∧ Q (.sh (.bl (isFrom d n))) args
def s_is_name : Sem := fun args Q _ => ∃ d, args = [.im d] ∧ okD d = true ∧ Q (.sh (.bl (isName d))) args
def isList : D → Bool
  | .lst _ => true
  | .tup _ => true
  | _ => false
def s_is_list : Sem := fun args Q _ => ∃ d, args = [.im d] ∧ okD d = true ∧ Q (.sh (.bl (isList d))) args
def isSum : D → Bool
  | .ins c _ => c == "Sum"
  | _ => false
def isPipe : D → Bool
  | .tup [a, b, c, d] => isName a && isName b && (match a, b with
    | .str x, .str y => !decide (x = y)
    | _, _ => false) && isSum c && isSum d
  | _ => false
def s_is_loop_pipe : Sem := fun args Q _ => ∃ d, args = [.im d] ∧ okD d = true ∧ (∀ ds, d = .tup ds → ∀ x ∈ ds, okD x = true) ∧ Q (.sh (.bl (isPipe d))) args
/-- the draws: n of them are left -/
def s_law_draw : Sem := fun args Q _ => ∃ n room, args = [.st (n + 1), .im (.int room)] ∧ 0 < room ∧ room < 1000000 ∧ ∀ i : Nat, (i : Int) < room → Q (.sh (.int i)) [.st n, .im (.int room)]
def s_law_mixed : Sem := fun args Q _ => ∃ n, args = [.st (n + 1)] ∧ ∀ i : Int, 0 ≤ i → Q (.sh (.int i)) [.st n]
def s_law_pick : Sem := fun args Q _ => ∃ n xs, args = [.st (n + 1), .im (.lst xs)] ∧ xs ≠ [] ∧ xs.length < 1000000 ∧ ∀ x ∈ xs, Q (.sh x) [.st n, .im (.lst xs)]
def s_law_shuffled : Sem := fun args Q _ => ∃ n xs, args = [.st (n + xs.length), .im (.lst xs)] ∧ xs.length < 100000 ∧ ∀ ys, ys.Perm xs → Q (.fr (.lst ys)) [.st n, .im (.lst xs)]
/-! ### lists without repeats -/
def ddp : List Str → List Str
  | [] => []
  | x :: xs => if x ∈ ddp xs then ddp xs else x :: ddp xs
def mkSum (ps : List (Str × Int)) : D := .ins "Sum" [("own_parts", .dct (dK ps))]
/-- the tail and the head of what may be a pipe -/
def endsD : D → List Str
  | .tup (.str a :: .str b :: _) => [a, b]
  | _ => []
def endsL (xs : List D) : List Str := xs.flatMap endsD
def keysL (kvs : List (Key × D)) : List Str := kvs.filterMap fun kv => match kv.1 with
  | .inr x => some x
  | .inl _ => none
def sumNames : D → List Str
  | .ins _ [(_, .dct kvs)] => keysL kvs
  | _ => []
def namesD : D → List Str
  | .tup [_, _, c, e] => sumNames c ++ sumNames e
  | _ => []
def namesL (xs : List D) : List Str := xs.flatMap namesD
/-- ascending, and just these -/
def Just (zs ys : List Str) : Prop := sortedS ys = true ∧ ys.Nodup ∧ ∀ x, x ∈ ys ↔ x ∈ zs
def HasEnds (x : D) : Prop := ∃ a b l, x = .tup (.str a :: .str b :: l)
def s_ends_of : Sem := fun args Q _ => ∃ d xs, args = [.im d] ∧ (d = .lst xs ∨ d = .tup xs) ∧ (∀ x ∈ xs, HasEnds x) ∧ xs.length ≤ 30 ∧ ∀ ys, Just (endsL xs) ys → Q (.sh (.tup (ys.map .str))) [.im d]
/-- what may stand in a list that is handed to Loop -/
def OkItem (x : D) : Prop := okD x = true ∧ ∀ ds, x = .tup ds → ∀ y ∈ ds, okD y = true ∧ (isSum y = true → ∃ ps, y = mkSum ps ∧ (ps.map (·.1)).Nodup ∧ ps.length < 60)
def wrongAt (xs : List D) (at_ : Nat) : Bool := at_ == 12 || !isPipe (xs.getD at_ .non) || decide (6 < (ddp (endsL (xs.take (at_ + 1)))).length)
def firstWrong (xs : List D) : Option Nat := (List.range xs.length).find? (wrongAt xs)
def mkLoop (xs : List D) (ks ns : List Str) : D := .ins "Loop" [("loop_pipes", .tup xs), ("loop_knots", .tup (ks.map .str)), ("loop_names", .tup (ns.map .str))]
def s_Loop_init : Sem := fun args Q E => ∃ d, args = [.pm (.ins "Loop" []), .im d] ∧ okD d = true ∧
  ((isList d = false ∧ ∀ l, E ⟨"BadLoop", some ("part", .non)⟩ (.pm (.ins "Loop" []) :: .im d :: l)) ∨ ∃ xs, (d = .lst xs ∨ d = .tup xs) ∧ (∀ x ∈ xs, OkItem x) ∧ xs.length ≤ 30 ∧
    ((∃ n, firstWrong xs = some n ∧ ∀ l, E ⟨"BadLoop", some ("part", .int n)⟩ (.pm (.ins "Loop" []) :: .im d :: l)) ∨
     (firstWrong xs = none ∧ (ddp (namesL xs)).length ≤ 40 ∧ ∀ ks ns, Just (endsL xs) ks → Just (namesL xs) ns → Q (.sh .non) [.pm (mkLoop xs ks ns), .im d])))
def ownK : Str → Option Str := fun c => ([("Sum", "own_parts"), ("Loop", "loop_pipes")] : List (Str × Str)).lookup c
/-! ### the law's own defs -/
/-- plain things -/
def plD : Nat → D → Bool
  | _, .non => true
  | _, .bl _ => true
  | _, .int _ => true
  | _, .str x => decide (x.length ≤ sizeLine)
  | n + 1, .lst xs => decide (xs.length < 1000) && xs.all (plD n)
  | n + 1, .tup xs => decide (xs.length < 1000) && xs.all (plD n)
  | _, _ => false
def s_law_plain (n : Nat) : Sem := fun args Q _ => ∃ d, args = [.im d] ∧ plD n d = true ∧ Q (.sh (.bl true)) args
def s_law_is : Sem := fun args Q _ => ∃ d, args = [.im d, .im d] ∧ plD 2 d = true ∧ EqN own0 3 d d true ∧ showD d ∧ topE d d ∧ Q (.sh (.bl true)) args
def sDs (xs : List Str) : List D := xs.map .str
def s_law_some_knots : Sem := fun args Q _ => ∃ n most, args = [.st (n + 7), .im (.int most)] ∧ 1 < most ∧ most < 1000 ∧ ∀ ys : List Str, 2 ≤ ys.length → ys.length ≤ 6 → ys.Nodup → (∀ x ∈ ys, nameOk x = true) → Q (.fr (.lst (sDs ys))) [.st n, .im (.int most)]
def s_law_knots : Sem := fun args Q _ => ∃ xs, args = [.im (.lst xs)] ∧ (∀ x ∈ xs, HasEnds x) ∧ xs.length ≤ 30 ∧ ∀ ys, Just (endsL xs) ys → Q (.fr (.lst (sDs ys))) args
/-- parts of a sum as they are handed in: distinct names, numbers from 0 on -/
def PartsGe (ps : List (Str × Int)) : Prop := (ps.map (·.1)).Nodup ∧ (∀ p ∈ ps, nameOk p.1 = true ∧ 0 ≤ p.2) ∧ ps.length < 60
def posP (ps : List (Str × Int)) : List (Str × Int) := ps.filter fun p => decide (0 < p.2)
def s_Sum_init : Sem := fun args Q _ => ∃ d ps, args = [.pm (.ins "Sum" []), .im d] ∧ ((d = .non ∧ ps = []) ∨ d = .dct (dK ps)) ∧ PartsGe ps ∧ ∀ qs, qs.Perm (posP ps) → Q (.sh .non) [.pm (mkSum qs), .im d]
/-! ### pipes with numbers -/
abbrev Pp : Type := Str × Str × Int × Int
def pD (p : Pp) : D := .tup [.str p.1, .str p.2.1, .int p.2.2.1, .int p.2.2.2]
def psD (ps : List Pp) : List D := ps.map pD
def iD (xs : List Int) : List D := xs.map .int
def endsP (ps : List Pp) : List Str := ps.flatMap fun p => [p.1, p.2.1]
/-- what goes into a knot less what goes out -/
def exs : List Pp → List Int → Str → Int
  | p :: ps, x :: xs, k => (if p.2.1 = k then x else 0) - (if p.1 = k then x else 0) + exs ps xs k
  | _, _, _ => 0
def inB : List Pp → List Int → Bool
  | p :: ps, x :: xs => decide (p.2.2.1 ≤ x ∧ x ≤ p.2.2.2) && inB ps xs
  | [], [] => true
  | _, _ => false
def evenB (ps : List Pp) (xs : List Int) : Bool := (endsP ps).all fun k => decide (exs ps xs k = 0)
def validB (ps : List Pp) (xs : List Int) : Bool := inB ps xs && evenB ps xs
def GoodPs (ps : List Pp) : Prop := (∀ p ∈ ps, nameOk p.1 = true ∧ nameOk p.2.1 = true ∧ p.1 ≠ p.2.1) ∧ ps.length ≤ 12 ∧ (ddp (endsP ps)).length ≤ 6
/-! ### sizes -/
def SizesOk (zs : List (Str × Int)) : Prop := (∀ p ∈ zs, nameOk p.1 = true ∧ 1 ≤ p.2) ∧ zs.length < 1000
def s_are_some_sizes : Sem := fun args Q _ => ∃ zs, args = [.im (.dct (dK zs))] ∧ SizesOk zs ∧ Q (.sh (.bl true)) args
def s_need_sizes : Sem := fun args Q _ => ∃ ns zs, args = [.im (.tup (sDs ns)), .im (.dct (dK zs))] ∧ SizesOk zs ∧ ns.length < 1000 ∧ (∀ n ∈ ns, n ∈ zs.map (·.1)) ∧ Q (.sh .non) args
def worth (ps zs : List (Str × Int)) : Int := (ps.map fun p => p.2 * (getP zs p.1).getD 0).sum
def SmallZ (zs : List (Str × Int)) : Prop := ∀ p ∈ zs, p.2 < 18446744073709551616
def s_worth_at : Sem := fun args Q _ => ∃ ps zs, args = [.im (mkSum ps), .im (.dct (dK zs))] ∧ SizesOk zs ∧ SmallZ zs ∧ ps.length < 1000 ∧ (∀ p ∈ ps, p.1 ∈ zs.map (·.1)) ∧ Q (.sh (.int (worth ps zs))) args
/-- a pipe with its sums -/
abbrev Lp : Type := Str × Str × List (Str × Int) × List (Str × Int)
def lpD (l : Lp) : D := .tup [.str l.1, .str l.2.1, mkSum l.2.2.1, mkSum l.2.2.2]
def atZ (zs : List (Str × Int)) (l : Lp) : Pp := (l.1, l.2.1, worth l.2.2.1 zs, worth l.2.2.2 zs)
def LpsOk (ls : List Lp) (zs : List (Str × Int)) : Prop := SizesOk zs ∧ SmallZ zs ∧ ls.length ≤ 12 ∧ ∀ l ∈ ls, l.2.2.1.length < 1000 ∧ l.2.2.2.length < 1000 ∧ (∀ p ∈ l.2.2.1, p.1 ∈ zs.map (·.1)) ∧ ∀ p ∈ l.2.2.2, p.1 ∈ zs.map (·.1)
def s_numbers_at : Sem := fun args Q _ => ∃ ls ks ns zs, args = [.im (mkLoop (ls.map lpD) ks ns), .im (.dct (dK zs))] ∧ LpsOk ls zs ∧ Q (.fr (.lst (psD (ls.map (atZ zs))))) args
/-! ### rounds -/
def s_gathered : Sem := fun args Q _ => ∃ ps d xs, args = [.im (.lst (psD ps)), .im d] ∧ lsT d = some (iD xs) ∧ xs.length = ps.length ∧ ps.length ≤ 12 ∧ ∀ ks, Just (endsP ps) ks → Q (.fr (.dct (dK (ks.map fun k => (k, exs ps xs k))))) args
/-- a step of a road: the pipe, the way, the room -/
abbrev Stp : Type := Nat × Int × Int
def stD (s : Stp) : D := .tup [.int (s.1 : Nat), .int s.2.1, .int s.2.2]
def rD (rs : List (Str × List Stp)) : List (Key × D) := rs.map fun r => (.inr r.1, .lst (r.2.map stD))
/-- a step goes from one knot to another -/
def StepOk (ps : List Pp) (xs : List Int) (u : Str) (s : Stp) (v : Str) : Prop := ∃ a b l w x, ps[s.1]? = some (a, b, l, w) ∧ xs[s.1]? = some x ∧ ((u = a ∧ v = b ∧ s.2.1 = 1 ∧ s.2.2 = w - x ∧ 0 < w - x) ∨ (u = b ∧ v = a ∧ s.2.1 = -1 ∧ s.2.2 = x - l ∧ 0 < x - l))
/-- a road: its knots, none twice, the last one first; its steps -/
inductive Road (ps : List Pp) (xs : List Int) (bs : List Str) : List Str → List Stp → Prop
  | nil {b : Str} (h : b ∈ bs) : Road ps xs bs [b] []
  | snoc {u v : Str} {vs : List Str} {ss : List Stp} {s : Stp} (r : Road ps xs bs (u :: vs) ss) (k : StepOk ps xs u s v) (n : v ∉ u :: vs) : Road ps xs bs (v :: u :: vs) (ss ++ [s])
structure RoadsOk (ps : List Pp) (xs : List Int) (bs : List Str) (rs : List (Str × List Stp)) : Prop where
  nd : (rs.map (·.1)).Nodup
  bg : ∀ b ∈ bs, b ∈ rs.map (·.1)
  road : ∀ r ∈ rs, ∃ vs, Road ps xs bs (r.1 :: vs) r.2 ∧ ∀ v ∈ vs, v ∈ rs.map (·.1)
  cl : ∀ u s v, u ∈ rs.map (·.1) → StepOk ps xs u s v → v ∈ rs.map (·.1)
def s_roads_from : Sem := fun args Q _ => ∃ ps xs bs, args = [.im (.lst (psD ps)), .pm (.lst (iD xs)), .im (.lst (sDs bs))] ∧ GoodPs ps ∧ xs.length = ps.length ∧ bs.Nodup ∧ (∀ b ∈ bs, b ∈ endsP ps) ∧ ∀ rs, RoadsOk ps xs bs rs → Q (.fr (.dct (rD rs))) args
def s_begun_at : Sem := fun args Q _ => ∃ ps s ss p, args = [.im (.lst (psD ps)), .im (.lst ((s :: ss).map stD))] ∧ ps[s.1]? = some p ∧ Q (.sh (.str (if s.2.1 = 1 then p.1 else p.2.1))) args
def s_circulated : Sem := fun args Q _ => ∃ ps, args = [.im (.lst (psD ps))] ∧ GoodPs ps ∧ (∀ xs, validB ps xs = true → Q (.sh (.tup [.str "rounds", .tup (iD xs)])) args) ∧ ((∀ xs, validB ps xs = false) → ∀ (w : Str) (d : D), w ≠ "rounds" → Q (.sh (.tup [.str w, d])) args)
def s_are_rounds_by : Sem := fun args Q _ => ∃ ps xs, args = [.im (.lst (psD ps)), .im (.tup (iD xs))] ∧ xs.length = ps.length ∧ ps.length ≤ 12 ∧ (∀ x ∈ xs, 0 ≤ x) ∧ Q (.sh (.bl (validB ps xs))) args
def s_are_rounds : Sem := fun args Q _ => ∃ ls ks ns zs xs, args = [.im (mkLoop (ls.map lpD) ks ns), .im (.dct (dK zs)), .im (.tup (iD xs))] ∧ LpsOk ls zs ∧ ns.length < 1000 ∧ (∀ n ∈ ns, n ∈ zs.map (·.1)) ∧ xs.length = ls.length ∧ (∀ x ∈ xs, 0 ≤ x) ∧ Q (.sh (.bl (validB (ls.map (atZ zs)) xs))) args
def s_rounds_at : Sem := fun args Q _ => ∃ ls ks ns zs, args = [.im (mkLoop (ls.map lpD) ks ns), .im (.dct (dK zs))] ∧ LpsOk ls zs ∧ GoodPs (ls.map (atZ zs)) ∧ ns.length < 1000 ∧ (∀ n ∈ ns, n ∈ zs.map (·.1)) ∧
  (∀ xs, validB (ls.map (atZ zs)) xs = true → Q (.sh (.tup [.str "rounds", .tup (iD xs)])) args) ∧ ((∀ xs, validB (ls.map (atZ zs)) xs = false) → ∀ d : D, Q (.sh (.tup [.str "broken", d])) args)
/-! ### the law's own -/
def upTo (l w : Int) : List Int := (List.range (w + 1 - l).toNat).map fun (n : Nat) => l + (n : Int)
def triedGo : List Pp → List (List Int) → List (List Int)
  | [], fs => fs
  | p :: ps, fs => triedGo ps (fs.flatMap fun one => (upTo p.2.2.1 p.2.2.2).map fun a => one ++ [a])
def tried (ps : List Pp) : List (List Int) := triedGo ps [[]]
def s_law_tried : Sem := fun args Q _ => ∃ ps, args = [.im (.lst (psD ps))] ∧ ps.length ≤ 5 ∧ (∀ p ∈ ps, 0 ≤ p.2.2.1 ∧ p.2.2.1 < 1000 ∧ p.2.2.2 ≤ p.2.2.1 + 3 ∧ 0 ≤ p.2.2.2) ∧ (Q (.fr (.lst ((tried ps).map fun xs => .tup (iD xs)))) args ∧ Q (.sh (.lst ((tried ps).map fun xs => .tup (iD xs)))) args)
def s_law_is_even : Sem := fun args Q _ => ∃ ps xs, args = [.im (.lst (psD ps)), .im (.tup (iD xs))] ∧ xs.length = ps.length ∧ ps.length ≤ 12 ∧ Q (.sh (.bl (evenB ps xs))) args
end K28
namespace K28
open PySem PySem.Spec PyProof.Rows L2 DL
open C8 (InsC)
def b_is_number : WS := sRet (wAndV (wIsi i_int (wVar 0)) (wNotV (wIsi i_bool (wVar 0))))
theorem sc_is_number : FnScope ["thing"] ["thing"] (defScope (top 9)) := ⟨rfl, rfl, rfl, by decide +kernel, rfl, by decide +kernel, by decide +kernel⟩
def b_is_from : WS := sRet (wAndV (wCall s_is_number [false] [] (wCons (wVar 0) (wNil)) (fun _ _ => False)) (wB fGe (wVar 0) (wVar 1)))
theorem sc_is_from : FnScope ["thing", "least"] ["thing", "least"] (defScope (top 10)) := ⟨rfl, rfl, rfl, by decide +kernel, rfl, by decide +kernel, by decide +kernel⟩
def b_is_name : WS := sSeq (sIf (wOrT (wNotT (wBl (wIsi i_str (wVar 0)))) (wNotT (wBl (wChain (fun i j => decide (i ≤ j)) (fun i j => decide (i ≤ j)) (wC (.int 1)) (wCB fLen (wCons (wVar 0) (wNil))) (wC (.int 8)))))) (sRet (wC (.bl false))) (sNext)) (sRet (wCB fAll (wCons (wLc (wIt (wVar 0)) (gN 1) (wYes) (wB (fIn false) (wVar 1) (wC (.str "abcdefghijklmnopqrstuvwxyz"))) [1]) (wNil))))
theorem sc_is_name : FnScope ["thing", "sign"] ["thing"] (defScope (top 11)) := ⟨rfl, rfl, rfl, by decide +kernel, rfl, by decide +kernel, by decide +kernel⟩
def b_is_list : WS := sRet (wIsi i_list_tuple (wVar 0))
theorem sc_is_list : FnScope ["thing"] ["thing"] (defScope (top 17)) := ⟨rfl, rfl, rfl, by decide +kernel, rfl, by decide +kernel, by decide +kernel⟩
def b_is_loop_pipe : WS := sSeq (sIf (wOrT (wNotT (wBl (wIsi i_tuple (wVar 0)))) (wOrT (wBl (wNe own0 0 (wCB fLen (wCons (wVar 0) (wNil))) (wC (.int 4)))) (wOrT (wNotT (wBl (wCall s_is_name [false] [] (wCons (wB fIx (wVar 0) (wC (.int 0))) (wNil)) (fun _ _ => False)))) (wNotT (wBl (wCall s_is_name [false] [] (wCons (wB fIx (wVar 0) (wC (.int 1))) (wNil)) (fun _ _ => False))))))) (sRet (wC (.bl false))) (sNext)) (sRet (wAndV (wNe own0 0 (wB fIx (wVar 0) (wC (.int 0))) (wB fIx (wVar 0) (wC (.int 1)))) (wAndV (wIsi i_Sum (wB fIx (wVar 0) (wC (.int 2)))) (wIsi i_Sum (wB fIx (wVar 0) (wC (.int 3)))))))
theorem sc_is_loop_pipe : FnScope ["thing"] ["thing"] (defScope (top 21)) := ⟨rfl, rfl, rfl, by decide +kernel, rfl, by decide +kernel, by decide +kernel⟩
def b_ends_of : WS := sSeq (sSet 1 (wDict0)) (sSeq (sFor (wIt (wVar 0)) (gN 2) (sSeq (sPut (wC (.bl true)) (wVar 1) (wB fIx (wVar 2) (wC (.int 0)))) (sPut (wC (.bl true)) (wVar 1) (wB fIx (wVar 2) (wC (.int 1)))))) (sRet (wCB fTuple (wCons (wCB fSorted (wCons (wVar 1) (wNil))) (wNil)))))
theorem sc_ends_of : FnScope ["pipes", "found", "pipe"] ["pipes"] (defScope (top 22)) := ⟨rfl, rfl, rfl, by decide +kernel, rfl, by decide +kernel, by decide +kernel⟩
def b_Sum_init : WS := sSeq (sSet 2 (wIfE (wBl (wB fIs (wVar 1) (wC .non))) (wDict0) (wVar 1))) (sSeq (sIf (wOrT (wNotT (wBl (wIsi i_dict (wVar 2)))) (wNotT (wBl (wCB fAll (wCons (wLc (wIt (wVar 2)) (gN 3) (wYes) (wCall s_is_name [false] [] (wCons (wVar 3) (wNil)) (fun _ _ => False)) [3]) (wNil)))))) (sNever) (sNext)) (sSeq (sFor (wIt (wCB fSorted (wCons (wVar 2) (wNil)))) (gN 3) (sIf (wNotT (wBl (wCall s_is_from [false, false] [] (wCons (wB fIx (wVar 2) (wVar 3)) (wCons (wC (.int 0)) (wNil))) (fun _ _ => False)))) (sNever) (sNext))) (sFldD ["Sum"] 0 "own_parts" (wDc (wIt (wCB fSorted (wCons (wVar 2) (wNil)))) (gN 3) (wBl (wB fGt (wB fIx (wVar 2) (wVar 3)) (wC (.int 0)))) (wVar 3) (wB fIx (wVar 2) (wVar 3)) [3]))))
theorem sc_Sum_init : FnScope ["self", "parts", "given", "name"] ["self", "parts"] (defScope (mth 15 0)) := ⟨rfl, rfl, rfl, by decide +kernel, rfl, by decide +kernel, by decide +kernel⟩
def b_Loop_init (Ed : XD → EnvD → Prop) : WS := sSeq (sIf (wNotT (wBl (wCall s_is_list [false] [] (wCons (wVar 1) (wNil)) (fun _ _ => False)))) (sRaise "BadLoop" "part" Ed (wCons (wC .non) (wNil))) (sNext)) (sSeq (sFor (wEnum (wCons (wVar 1) (wNil))) (gT 2 (gsCons (gN 2) (gsCons (gN 3) (gsNil)))) (sIf (wOrT (wBl (wEq own0 0 (wVar 2) (wC (.int 12)))) (wOrT (wNotT (wBl (wCall s_is_loop_pipe [false] [] (wCons (wVar 3) (wNil)) (fun _ _ => False)))) (wBl (wB fGt (wCB fLen (wCons (wCall s_ends_of [false] [] (wCons (wSl (wVar 1) (wNo) (wSome (wB fAdd (wVar 2) (wC (.int 1))))) (wNil)) (fun _ _ => False)) (wNil))) (wC (.int 6)))))) (sRaise "BadLoop" "part" Ed (wCons (wVar 2) (wNil))) (sNext))) (sSeq (sFldD ["Loop"] 0 "loop_pipes" (wCB fTuple (wCons (wVar 1) (wNil)))) (sSeq (sFldD ["Loop"] 0 "loop_knots" (wCall s_ends_of [false] [] (wCons (wVar 1) (wNil)) (fun _ _ => False))) (sSeq (sSet 4 (wDcN (wIt (wVar 1)) (gN 3) (wYes) (wbMid (wIt (wSl (wVar 3) (wSome (wC (.int 2))) (wNo))) (gN 5) (wYes) (wbMid (wIt (wFld ["Sum"] "own_parts" (wVar 5))) (gN 6) (wYes) (wbLast (wVar 6) (wC (.bl true))) [6]) [5, 6]) [3, 5, 6])) (sFldD ["Loop"] 0 "loop_names" (wCB fTuple (wCons (wCB fSorted (wCons (wVar 4) (wNil))) (wNil))))))))
theorem sc_Loop_init : FnScope ["self", "pipes", "at", "pipe", "used", "total", "name"] ["self", "pipes"] (defScope (mth 23 0)) := ⟨rfl, rfl, rfl, by decide +kernel, rfl, by decide +kernel, by decide +kernel⟩
def b_are_some_sizes : WS := sSeq (sIf (wNotT (wBl (wIsi i_dict (wVar 0)))) (sRet (wC (.bl false))) (sNext)) (sRet (wCB fAll (wCons (wLc (wItems (wVar 0)) (gT 2 (gsCons (gN 1) (gsCons (gN 2) (gsNil)))) (wYes) (wAndV (wCall s_is_name [false] [] (wCons (wVar 1) (wNil)) (fun _ _ => False)) (wCall s_is_from [false, false] [] (wCons (wVar 2) (wCons (wC (.int 1)) (wNil))) (fun _ _ => False))) [1, 2]) (wNil))))
theorem sc_are_some_sizes : FnScope ["thing", "name", "number"] ["thing"] (defScope (top 12)) := ⟨rfl, rfl, rfl, by decide +kernel, rfl, by decide +kernel, by decide +kernel⟩
def b_need_sizes : WS := sIf (wOrT (wNotT (wBl (wCall s_are_some_sizes [false] [] (wCons (wVar 1) (wNil)) (fun _ _ => False)))) (wNotT (wBl (wCB fAll (wCons (wLc (wIt (wVar 0)) (gN 2) (wYes) (wB (fIn false) (wVar 2) (wVar 1)) [2]) (wNil)))))) (sNever) (sNext)
theorem sc_need_sizes : FnScope ["names", "sizes", "name"] ["names", "sizes"] (defScope (top 13)) := ⟨rfl, rfl, rfl, by decide +kernel, rfl, by decide +kernel, by decide +kernel⟩
def b_worth_at : WS := sRet (wCB fSum (wCons (wLc (wItems (wFld ["Sum"] "own_parts" (wVar 0))) (gT 2 (gsCons (gN 2) (gsCons (gN 3) (gsNil)))) (wYes) (wB fMul (wVar 3) (wB fIx (wVar 1) (wVar 2))) [2, 3]) (wNil)))
theorem sc_worth_at : FnScope ["total", "sizes", "name", "number"] ["total", "sizes"] (defScope (top 14)) := ⟨rfl, rfl, rfl, by decide +kernel, rfl, by decide +kernel, by decide +kernel⟩
def b_numbers_at : WS := sRet (wLc (wIt (wFld ["Loop"] "loop_pipes" (wVar 0))) (gT 4 (gsCons (gN 2) (gsCons (gN 3) (gsCons (gN 4) (gsCons (gN 5) (gsNil)))))) (wYes) (wTup (wCons (wVar 2) (wCons (wVar 3) (wCons (wCall s_worth_at [false, false] [] (wCons (wVar 4) (wCons (wVar 1) (wNil))) (fun _ _ => False)) (wCons (wCall s_worth_at [false, false] [] (wCons (wVar 5) (wCons (wVar 1) (wNil))) (fun _ _ => False)) (wNil)))))) [2, 3, 4, 5])
theorem sc_numbers_at : FnScope ["loop", "sizes", "tail", "head", "low", "width"] ["loop", "sizes"] (defScope (top 24)) := ⟨rfl, rfl, rfl, by decide +kernel, rfl, by decide +kernel, by decide +kernel⟩
def b_gathered : WS := sSeq (sSet 2 (wDcN (wIt (wCall s_ends_of [false] [] (wCons (wVar 0) (wNil)) (fun _ _ => False))) (gN 5) (wYes) (wbLast (wVar 5) (wC (.int 0))) [5])) (sSeq (sFor (wZip (wCons (wVar 0) (wCons (wVar 1) (wNil)))) (gT 2 (gsCons (gN 3) (gsCons (gN 4) (gsNil)))) (sSeq (sAugIx (fun i j => i - j) (wVar 2) (wB fIx (wVar 3) (wC (.int 0))) (wVar 4)) (sAugIx (fun i j => i + j) (wVar 2) (wB fIx (wVar 3) (wC (.int 1))) (wVar 4)))) (sRet (wVar 2)))
theorem sc_gathered : FnScope ["pipes", "amounts", "found", "pipe", "amount", "knot"] ["pipes", "amounts"] (defScope (top 26)) := ⟨rfl, rfl, rfl, by decide +kernel, rfl, by decide +kernel, by decide +kernel⟩
def b_are_rounds_by : WS := sSeq (sIf (wOrT (wNotT (wBl (wIsi i_tuple (wVar 1)))) (wOrT (wBl (wNe own0 0 (wCB fLen (wCons (wVar 1) (wNil))) (wCB fLen (wCons (wVar 0) (wNil))))) (wNotT (wBl (wCB fAll (wCons (wLc (wIt (wVar 1)) (gN 2) (wYes) (wCall s_is_from [false, false] [] (wCons (wVar 2) (wCons (wC (.int 0)) (wNil))) (fun _ _ => False)) [2]) (wNil))))))) (sRet (wC (.bl false))) (sNext)) (sSeq (sIf (wNotT (wBl (wCB fAll (wCons (wLc (wZip (wCons (wVar 0) (wCons (wVar 1) (wNil)))) (gT 2 (gsCons (gT 4 (gsCons (gN 3) (gsCons (gN 4) (gsCons (gN 5) (gsCons (gN 6) (gsNil)))))) (gsCons (gN 2) (gsNil)))) (wYes) (wChain (fun i j => decide (i ≤ j)) (fun i j => decide (i ≤ j)) (wVar 5) (wVar 2) (wVar 6)) [2, 3, 4, 5, 6]) (wNil))))) (sRet (wC (.bl false))) (sNext)) (sRet (wCB fAll (wCons (wLc (wVals (wCall s_gathered [false, false] [] (wCons (wVar 0) (wCons (wVar 1) (wNil))) (fun _ _ => False))) (gN 7) (wYes) (wEq own0 0 (wVar 7) (wC (.int 0))) [7]) (wNil)))))
theorem sc_are_rounds_by : FnScope ["pipes", "thing", "one", "tail", "head", "low", "width", "more"] ["pipes", "thing"] (defScope (top 25)) := ⟨rfl, rfl, rfl, by decide +kernel, rfl, by decide +kernel, by decide +kernel⟩
def b_roads_from : WS := sSeq (sPar3 3 4 5 (wDc (wIt (wVar 2)) (gN 16) (wYes) (wVar 16) (wLst (wNil)) [16]) (wCB fList (wCons (wVar 2) (wNil))) (.int 0)) (sSeq (sWhile (wBl (wB fLt (wVar 5) (wCB fLen (wCons (wVar 4) (wNil))))) (sSeq (sSet 6 (wB fIx (wVar 4) (wVar 5))) (sSeq (sAug (fun i j => i + j) 5 (wC (.int 1))) (sFor (wEnum (wCons (wVar 0) (wNil))) (gT 2 (gsCons (gN 7) (gsCons (gT 4 (gsCons (gN 8) (gsCons (gN 9) (gsCons (gN 10) (gsCons (gN 11) (gsNil)))))) (gsNil)))) (sFor (wIt (wTup (wCons (wTup (wCons (wVar 8) (wCons (wVar 9) (wCons (wC (.int 1)) (wCons (wB fSub (wVar 11) (wB fIx (wVar 1) (wVar 7))) (wNil)))))) (wCons (wTup (wCons (wVar 9) (wCons (wVar 8) (wCons (wNeg (wC (.int 1))) (wCons (wB fSub (wB fIx (wVar 1) (wVar 7)) (wVar 10)) (wNil)))))) (wNil))))) (gT 4 (gsCons (gN 12) (gsCons (gN 13) (gsCons (gN 14) (gsCons (gN 15) (gsNil)))))) (sIf (wAndT (wBl (wEq own0 0 (wVar 12) (wVar 6))) (wAndT (wBl (wB fGt (wVar 15) (wC (.int 0)))) (wBl (wB (fIn true) (wVar 13) (wVar 3))))) (sSeq (sPut (wB fAdd (wB fIx (wVar 3) (wVar 6)) (wLst (wCons (wTup (wCons (wVar 7) (wCons (wVar 14) (wCons (wVar 15) (wNil))))) (wNil)))) (wVar 3) (wVar 13)) (sDrop (wApp (wVar 4) (wCons (wVar 13) (wNil))))) (sNext))))))) (sRet (wVar 3)))
theorem sc_roads_from : FnScope ["pipes", "amounts", "begins", "roads", "line", "spot", "here", "at", "tail", "head", "low", "width", "one", "other", "way", "room", "knot"] ["pipes", "amounts", "begins"] (defScope (top 27)) := ⟨rfl, rfl, rfl, by decide +kernel, rfl, by decide +kernel, by decide +kernel⟩
def b_begun_at : WS := sSeq (sAsg (wB fIx (wVar 1) (wC (.int 0))) (gT 3 (gsCons (gN 2) (gsCons (gN 3) (gsCons (gN 4) (gsNil)))))) (sRet (wIfE (wBl (wEq own0 0 (wVar 3) (wC (.int 1)))) (wB fIx (wB fIx (wVar 0) (wVar 2)) (wC (.int 0))) (wB fIx (wB fIx (wVar 0) (wVar 2)) (wC (.int 1)))))
theorem sc_begun_at : FnScope ["pipes", "road_steps", "at", "way", "room"] ["pipes", "road_steps"] (defScope (top 28)) := ⟨rfl, rfl, rfl, by decide +kernel, rfl, by decide +kernel, by decide +kernel⟩
def b_circulated : WS := sSeq (sFor (wEnum (wCons (wVar 0) (wNil))) (gT 2 (gsCons (gN 1) (gsCons (gT 4 (gsCons (gN 2) (gsCons (gN 3) (gsCons (gN 4) (gsCons (gN 5) (gsNil)))))) (gsNil)))) (sIf (wBl (wB fGt (wVar 4) (wVar 5))) (sRet (wTup (wCons (wC (.str "pipe")) (wCons (wVar 1) (wNil))))) (sNext))) (sSeq (sSet 6 (wLc (wIt (wVar 0)) (gT 4 (gsCons (gN 2) (gsCons (gN 3) (gsCons (gN 4) (gsCons (gN 5) (gsNil)))))) (wYes) (wVar 4) [2, 3, 4, 5])) (sWhile (wBl (wC (.bl true))) (sSeq (sSet 7 (wCallR s_gathered (wCons (wVar 0) (wCons (wVar 6) (wNil))))) (sSeq (sSet 8 (wLc (wIt (wVar 7)) (gN 15) (wBl (wB fGt (wB fIx (wVar 7) (wVar 15)) (wC (.int 0)))) (wVar 15) [15])) (sSeq (sIf (wBl (wEq own0 1 (wVar 8) (wLst (wNil)))) (sRet (wTup (wCons (wC (.str "rounds")) (wCons (wCB fTuple (wCons (wVar 6) (wNil))) (wNil))))) (sNext)) (sSeq (sSet 9 (wCall s_roads_from [false, true, false] [] (wCons (wVar 0) (wCons (wVar 6) (wCons (wVar 8) (wNil)))) (fun _ _ => False))) (sSeq (sSet 10 (wLc (wIt (wVar 9)) (gN 15) (wBl (wB fLt (wB fIx (wVar 7) (wVar 15)) (wC (.int 0)))) (wVar 15) [15])) (sSeq (sIf (wBl (wEq own0 1 (wVar 10) (wLst (wNil)))) (sRet (wTup (wCons (wC (.str "lot")) (wCons (wCB fTuple (wCons (wLc (wIt (wVar 7)) (gN 15) (wBl (wB (fIn true) (wVar 15) (wVar 9))) (wVar 15) [15]) (wNil))) (wNil))))) (sNext)) (sSeq (sSet 11 (wB fIx (wVar 9) (wB fIx (wVar 10) (wC (.int 0))))) (sSeq (sSet 12 (wCB fMin (wCons (wB fAdd (wLst (wCons (wB fIx (wVar 7) (wCall s_begun_at [false, false] [] (wCons (wVar 0) (wCons (wVar 11) (wNil))) (fun _ _ => False))) (wCons (wNeg (wB fIx (wVar 7) (wB fIx (wVar 10) (wC (.int 0))))) (wNil)))) (wLc (wIt (wVar 11)) (gT 3 (gsCons (gN 1) (gsCons (gN 13) (gsCons (gN 14) (gsNil))))) (wYes) (wVar 14) [1, 13, 14])) (wNil)))) (sFor (wIt (wVar 11)) (gT 3 (gsCons (gN 1) (gsCons (gN 13) (gsCons (gN 14) (gsNil))))) (sAugIx (fun i j => i + j) (wVar 6) (wVar 1) (wB fMul (wVar 13) (wVar 12))))))))))))))
theorem sc_circulated : FnScope ["pipes", "at", "tail", "head", "low", "width", "amounts", "more", "begins", "roads", "ends", "steps", "part", "way", "room", "knot"] ["pipes"] (defScope (top 29)) := ⟨rfl, rfl, rfl, by decide +kernel, rfl, by decide +kernel, by decide +kernel⟩
def b_are_rounds : WS := sSeq (sDrop (wCall s_need_sizes [false, false] [] (wCons (wFld ["Loop"] "loop_names" (wVar 0)) (wCons (wVar 1) (wNil))) (fun _ _ => False))) (sRet (wCall s_are_rounds_by [false, false] [] (wCons (wCall s_numbers_at [false, false] [] (wCons (wVar 0) (wCons (wVar 1) (wNil))) (fun _ _ => False)) (wCons (wVar 2) (wNil))) (fun _ _ => False)))
theorem sc_are_rounds : FnScope ["loop", "sizes", "thing"] ["loop", "sizes", "thing"] (defScope (top 30)) := ⟨rfl, rfl, rfl, by decide +kernel, rfl, by decide +kernel, by decide +kernel⟩
def b_rounds_at : WS := sSeq (sDrop (wCall s_need_sizes [false, false] [] (wCons (wFld ["Loop"] "loop_names" (wVar 0)) (wCons (wVar 1) (wNil))) (fun _ _ => False))) (sSeq (sSet 2 (wCall s_circulated [false] [] (wCons (wCall s_numbers_at [false, false] [] (wCons (wVar 0) (wCons (wVar 1) (wNil))) (fun _ _ => False)) (wNil)) (fun _ _ => False))) (sRet (wIfE (wBl (wEq own0 0 (wB fIx (wVar 2) (wC (.int 0))) (wC (.str "rounds")))) (wVar 2) (wTup (wCons (wC (.str "broken")) (wCons (wVar 2) (wNil)))))))
theorem sc_rounds_at : FnScope ["loop", "sizes", "told"] ["loop", "sizes"] (defScope (top 31)) := ⟨rfl, rfl, rfl, by decide +kernel, rfl, by decide +kernel, by decide +kernel⟩
def b_law_mixed : WS := sSeq (sPar 1 2 (wB fAdd (wStI 0 true) (wC (.int 1))) (wC (.int 0))) (sSeq (sStP 0 true (wVar 1)) (sSeq (sFor (wIt (wLst (wCons (wC (.int 2147483549)) (wCons (wC (.int 2147483543)) (wCons (wC (.int 2147483497)) (wCons (wC (.int 2147483489)) (wNil))))))) (gN 3) (sSeq (sSet 4 (wB fAdd (wB fMul (wC (.int 69621)) (wVar 1)) (wB fDiv (wVar 3) (wC (.int 41))))) (sSeq (sFor (wIt (wStC 0)) (gN 5) (sSet 4 (wB fMod (wCB (fInt1 .int) (wCons (wB fAdd (wB fAdd (wB fMul (wVar 4) (wC (.int 48271))) (wVar 5)) (wVar 1)) (wNil))) (wVar 3)))) (sSet 2 (wB fAdd (wB fMul (wVar 2) (wC (.int 2147483659))) (wB fMod (wCB (fInt1 .int) (wCons (wB fPow (wVar 4) (wC (.int 5))) (wNil))) (wVar 3))))))) (sRet (wVar 2))))
theorem sc_law_mixed : FnScope ["state", "turn", "found", "prime", "blend", "cell"] ["state"] (defScope (top 34)) := ⟨rfl, rfl, rfl, by decide +kernel, rfl, by decide +kernel, by decide +kernel⟩
def b_law_draw : WS := sSeq (sIf (wBl (wEq own0 0 (wStI 0 false) (wC (.int 0)))) (sStP 0 false (wGreat 0 (wCall s_law_mixed [true] [] (wCons (wVar 0) (wNil)) (fun _ _ => False)))) (sNext)) (sSeq (sSet 2 (wB fMod (wCB (fInt1 .int) (wCons (wStI 0 false) (wNil))) (wVar 1))) (sSeq (sStP 0 false (wB fDiv (wStI 0 false) (wVar 1))) (sRet (wVar 2))))
theorem sc_law_draw : FnScope ["state", "room", "found"] ["state", "room"] (defScope (top 35)) := ⟨rfl, rfl, rfl, by decide +kernel, rfl, by decide +kernel, by decide +kernel⟩
def b_law_pick : WS := sRet (wB fIx (wVar 1) (wCall s_law_draw [true, false] [] (wCons (wVar 0) (wCons (wCB fLen (wCons (wVar 1) (wNil))) (wNil))) (fun _ _ => False)))
theorem sc_law_pick : FnScope ["state", "some"] ["state", "some"] (defScope (top 36)) := ⟨rfl, rfl, rfl, by decide +kernel, rfl, by decide +kernel, by decide +kernel⟩
def b_law_shuffled : WS := sSeq (sPar 2 3 (wCB fList (wCons (wVar 1) (wNil))) (wLst (wNil))) (sSeq (sWhile (wBl (wNe own0 1 (wVar 2) (wLst (wNil)))) (sDrop (wApp (wVar 3) (wCons (wPopAt (wVar 2) (wCons (wCall s_law_draw [true, false] [] (wCons (wVar 0) (wCons (wCB fLen (wCons (wVar 2) (wNil))) (wNil))) (fun _ _ => False)) (wNil))) (wNil))))) (sRet (wVar 3)))
theorem sc_law_shuffled : FnScope ["state", "some", "left", "found"] ["state", "some"] (defScope (top 37)) := ⟨rfl, rfl, rfl, by decide +kernel, rfl, by decide +kernel, by decide +kernel⟩
def b_law_some_knots : WS := sRet (wSl (wCall s_law_shuffled [true, false] [] (wCons (wVar 0) (wCons (wLst (wCons (wC (.str "k")) (wCons (wC (.str "l")) (wCons (wC (.str "m")) (wCons (wC (.str "n")) (wCons (wC (.str "spring")) (wCons (wC (.str "mill")) (wNil)))))))) (wNil))) (fun _ _ => False)) (wNo) (wSome (wB fAdd (wC (.int 2)) (wCall s_law_draw [true, false] [] (wCons (wVar 0) (wCons (wB fSub (wVar 1) (wC (.int 1))) (wNil))) (fun _ _ => False)))))
theorem sc_law_some_knots : FnScope ["state", "most"] ["state", "most"] (defScope (top 40)) := ⟨rfl, rfl, rfl, by decide +kernel, rfl, by decide +kernel, by decide +kernel⟩
def b_law_knots : WS := sSeq (sSet 1 (wDict0)) (sSeq (sFor (wIt (wVar 0)) (gN 2) (sSeq (sPut (wC (.bl true)) (wVar 1) (wB fIx (wVar 2) (wC (.int 0)))) (sPut (wC (.bl true)) (wVar 1) (wB fIx (wVar 2) (wC (.int 1)))))) (sRet (wCB fSorted (wCons (wVar 1) (wNil)))))
theorem sc_law_knots : FnScope ["pipes", "found", "pipe"] ["pipes"] (defScope (top 41)) := ⟨rfl, rfl, rfl, by decide +kernel, rfl, by decide +kernel, by decide +kernel⟩
def b_law_tried : WS := sSeq (sSet 1 (wLst (wCons (wTup (wNil)) (wNil)))) (sSeq (sFor (wIt (wVar 0)) (gT 4 (gsCons (gN 2) (gsCons (gN 3) (gsCons (gN 4) (gsCons (gN 5) (gsNil)))))) (sSeq (sSet 6 (wLst (wNil))) (sSeq (sFor (wIt (wVar 1)) (gN 7) (sSet 6 (wB fAdd (wVar 6) (wLc (wRng2 (wCons (wVar 4) (wCons (wB fAdd (wVar 5) (wC (.int 1))) (wNil)))) (gN 8) (wYes) (wB fAdd (wVar 7) (wTup (wCons (wVar 8) (wNil)))) [8])))) (sSet 1 (wVar 6))))) (sRet (wVar 1)))
theorem sc_law_tried : FnScope ["pipes", "found", "tail", "head", "low", "width", "longer", "one", "amount"] ["pipes"] (defScope (top 42)) := ⟨rfl, rfl, rfl, by decide +kernel, rfl, by decide +kernel, by decide +kernel⟩
def b_law_is_even : WS := sSeq (sFor (wIt (wCall s_law_knots [false] [] (wCons (wVar 0) (wNil)) (fun _ _ => False))) (gN 2) (sSeq (sSet 3 (wCB fSum (wCons (wLc (wZip (wCons (wVar 0) (wCons (wVar 1) (wNil)))) (gT 2 (gsCons (gN 4) (gsCons (gN 5) (gsNil)))) (wBl (wEq own0 0 (wB fIx (wVar 4) (wC (.int 1))) (wVar 2))) (wVar 5) [4, 5]) (wNil)))) (sIf (wBl (wNe own0 0 (wVar 3) (wCB fSum (wCons (wLc (wZip (wCons (wVar 0) (wCons (wVar 1) (wNil)))) (gT 2 (gsCons (gN 4) (gsCons (gN 5) (gsNil)))) (wBl (wEq own0 0 (wB fIx (wVar 4) (wC (.int 0))) (wVar 2))) (wVar 5) [4, 5]) (wNil))))) (sRet (wC (.bl false))) (sNext)))) (sRet (wC (.bl true)))
theorem sc_law_is_even : FnScope ["pipes", "amounts", "knot", "into", "pipe", "one"] ["pipes", "amounts"] (defScope (top 43)) := ⟨rfl, rfl, rfl, by decide +kernel, rfl, by decide +kernel, by decide +kernel⟩
def sP : Nat → Sem
  | 0 => fun _ _ _ => False
  | n + 1 => s_law_plain n
def i_int_str : D → Option Bool := isA (fun k => k == "int" || k == "bool" || k == "str") (ownT [("Sum", false), ("Loop", false)])
def b_law_plain (n : Nat) : WS := sSeq (sIf (wBl (wIsi i_list_tuple (wVar 0))) (sRet (wEq own0 1 (wLc (wIt (wVar 0)) (gN 1) (wNotT (wBl (wCall (sP n) [false] [] (wCons (wVar 1) (wNil)) (fun _ _ => False)))) (wC (.int 1)) [1]) (wLst (wNil)))) (sNext)) (sSeq (sIf (wBl (wIsi i_dict (wVar 0))) (sNever) (sNext)) (sRet (wOrV (wB fIs (wVar 0) (wC .non)) (wIsi i_int_str (wVar 0)))))
theorem sc_law_plain : FnScope ["thing_here", "one"] ["thing_here"] (defScope (top 38)) := ⟨rfl, rfl, rfl, by decide +kernel, rfl, by decide +kernel, by decide +kernel⟩
def b_law_is : WS := sRet (wAndV (wCall (sP 3) [false] [] (wCons (wVar 0) (wNil)) (fun _ _ => False)) (wAndV (wEq own0 3 (wVar 0) (wVar 1)) (wAndV (wEq own0 3 (wVar 1) (wVar 0)) (wEq own0 0 (wCB fRepr (wCons (wVar 0) (wNil))) (wCB fRepr (wCons (wVar 1) (wNil)))))))
theorem sc_law_is : FnScope ["found", "due"] ["found", "due"] (defScope (top 39)) := ⟨rfl, rfl, rfl, by decide +kernel, rfl, by decide +kernel, by decide +kernel⟩
def b_law : WS := sSeq (sIf (wNotT (wBl (wCall s_law_is [false, false] [] (wCons (wCall s_rounds_at [false, false] [] (wCons (wMake "Loop" s_Loop_init [false] [] (wCons (wLst (wCons (wTup (wCons (wC (.str "k")) (wCons (wC (.str "l")) (wCons (wMake "Sum" s_Sum_init [false] [] (wCons (wDsp [(.inr "u", wC (.int 2))]) (wNil)) (fun _ _ => False)) (wCons (wMake "Sum" s_Sum_init [false] [] (wCons (wDsp [(.inr "u", wC (.int 3))]) (wNil)) (fun _ _ => False)) (wNil)))))) (wCons (wTup (wCons (wC (.str "l")) (wCons (wC (.str "k")) (wCons (wMake "Sum" s_Sum_init [] [.non] wNil (fun _ _ => False)) (wCons (wMake "Sum" s_Sum_init [false] [] (wCons (wDsp [(.inr "u", wC (.int 2))]) (wNil)) (fun _ _ => False)) (wNil)))))) (wNil)))) (wNil)) (fun _ _ => False)) (wCons (wDsp [(.inr "u", wC (.int 1))]) (wNil))) (fun _ _ => False)) (wCons (wTup (wCons (wC (.str "rounds")) (wCons (wTup (wCons (wC (.int 2)) (wCons (wC (.int 2)) (wNil)))) (wNil)))) (wNil))) (fun _ _ => False)))) (sRet (wC (.bl false))) (sNext)) (sSeq (sFor (wRng1 (wCons (wC (.int 8)) (wNil))) (gN 2) (sSeq (sPar 3 4 (wCall s_law_some_knots [true, false] [] (wCons (wVar 1) (wCons (wC (.int 4)) (wNil))) (fun _ _ => False)) (wLst (wNil))) (sSeq (sFor (wRng1 (wCons (wCall s_law_draw [true, false] [] (wCons (wVar 1) (wCons (wC (.int 6)) (wNil))) (fun _ _ => False)) (wNil))) (gN 5) (sSeq (sPar 6 7 (wCall s_law_pick [true, false] [] (wCons (wVar 1) (wCons (wVar 3) (wNil))) (fun _ _ => False)) (wCall s_law_draw [true, false] [] (wCons (wVar 1) (wCons (wC (.int 3)) (wNil))) (fun _ _ => False))) (sDrop (wApp (wVar 4) (wCons (wTup (wCons (wVar 6) (wCons (wCall s_law_pick [true, false] [] (wCons (wVar 1) (wCons (wLc (wIt (wVar 3)) (gN 13) (wBl (wNe own0 0 (wVar 13) (wVar 6))) (wVar 13) [13]) (wNil))) (fun _ _ => False)) (wCons (wVar 7) (wCons (wB fSub (wB fAdd (wVar 7) (wCall s_law_draw [true, false] [] (wCons (wVar 1) (wCons (wC (.int 4)) (wNil))) (fun _ _ => False))) (wCall s_law_pick [true, false] [] (wCons (wVar 1) (wCons (wLst (wCons (wC (.int 0)) (wCons (wC (.int 0)) (wCons (wC (.int 0)) (wCons (wC (.int 1)) (wNil)))))) (wNil))) (fun _ _ => False))) (wNil)))))) (wNil)))))) (sSeq (sSet 8 (wMake "Loop" s_Loop_init [false] [] (wCons (wLc (wIt (wVar 4)) (gT 4 (gsCons (gN 6) (gsCons (gN 14) (gsCons (gN 7) (gsCons (gN 15) (gsNil)))))) (wYes) (wTup (wCons (wVar 6) (wCons (wVar 14) (wCons (wMake "Sum" s_Sum_init [false] [] (wCons (wDsp [(.inr "u", wVar 7)]) (wNil)) (fun _ _ => False)) (wCons (wMake "Sum" s_Sum_init [false] [] (wCons (wDsp [(.inr "u", wCB fMax2 (wCons (wVar 15) (wCons (wC (.int 0)) (wNil))))]) (wNil)) (fun _ _ => False)) (wNil)))))) [6, 14, 7, 15]) (wNil)) (fun _ _ => False))) (sSeq (sSet 4 (wLc (wIt (wVar 4)) (gT 4 (gsCons (gN 6) (gsCons (gN 14) (gsCons (gN 7) (gsCons (gN 15) (gsNil)))))) (wYes) (wTup (wCons (wVar 6) (wCons (wVar 14) (wCons (wVar 7) (wCons (wCB fMax2 (wCons (wVar 15) (wCons (wC (.int 0)) (wNil)))) (wNil)))))) [6, 14, 7, 15])) (sSeq (sSet 9 (wLc (wIt (wCall s_law_tried [false] [] (wCons (wVar 4) (wNil)) (fun _ _ => False))) (gN 11) (wBl (wCall s_law_is_even [false, false] [] (wCons (wVar 4) (wCons (wVar 11) (wNil))) (fun _ _ => False))) (wVar 11) [11])) (sSeq (sSet 10 (wCall s_rounds_at [false, false] [] (wCons (wVar 8) (wCons (wDsp [(.inr "u", wC (.int 1))]) (wNil))) (fun _ _ => False))) (sSeq (sIf (wOrT (wBl (wNe own0 0 (wEq own0 0 (wB fIx (wVar 10) (wC (.int 0))) (wC (.str "rounds"))) (wNe own0 1 (wVar 9) (wLst (wNil))))) (wAndT (wBl (wNe own0 1 (wVar 9) (wLst (wNil)))) (wBl (wB (fInT true) (wB fIx (wVar 10) (wC (.int 1))) (wVar 9))))) (sRet (wC (.bl false))) (sNext)) (sSeq (sFor (wIt (wSl (wCall s_law_shuffled [true, false] [] (wCons (wVar 1) (wCons (wCall s_law_tried [false] [] (wCons (wVar 4) (wNil)) (fun _ _ => False)) (wNil))) (fun _ _ => False)) (wNo) (wSome (wC (.int 30))))) (gN 11) (sIf (wNotT (wBl (wCall s_law_is [false, false] [] (wCons (wCall s_are_rounds [false, false, false] [] (wCons (wVar 8) (wCons (wDsp [(.inr "u", wC (.int 1))]) (wCons (wVar 11) (wNil)))) (fun _ _ => False)) (wCons (wB (fInT false) (wVar 11) (wVar 9)) (wNil))) (fun _ _ => False)))) (sRet (wC (.bl false))) (sNext))) (sSeq (sSet 12 (wLc (wEnum (wCons (wVar 4) (wNil))) (gT 2 (gsCons (gN 16) (gsCons (gN 17) (gsNil)))) (wBl (wB fGt (wB fIx (wVar 17) (wC (.int 2))) (wB fIx (wVar 17) (wC (.int 3))))) (wVar 16) [16, 17])) (sIf (wAndT (wBl (wNe own0 1 (wVar 12) (wLst (wNil)))) (wBl (wNe own0 0 (wB fIx (wVar 10) (wC (.int 0))) (wC (.str "broken"))))) (sRet (wC (.bl false))) (sNext)))))))))))) (sRet (wC (.bl true))))
theorem sc_law : FnScope ["script", "state", "lap", "knots", "pipes", "turn", "tail", "low", "loop", "some", "found", "one", "low_above", "knot", "head", "width", "nth", "pipe"] ["script"] (defScope (top 44)) := ⟨rfl, rfl, rfl, by decide +kernel, rfl, by decide +kernel, by decide +kernel⟩
end K28
namespace K28
open PySem PySem.Spec PyProof.Rows L2 DL
open C8 (InsC)
/-- what the head tells -/
structure Fx (K : PySem.W.Frag) (mg : Str → Option Value) : Prop where
  i_int : IsF K [.type "int"] (fun k => k == "int" || k == "bool") (ownT [("Sum", false), ("Loop", false)])
  i_bool : IsF K [.type "bool"] (fun k => k == "bool") (ownT [("Sum", false), ("Loop", false)])
  i_str : IsF K [.type "str"] (fun k => k == "str") (ownT [("Sum", false), ("Loop", false)])
  i_dict : IsF K [.type "dict"] (fun k => k == "dict") (ownT [("Sum", false), ("Loop", false)])
  i_tuple : IsF K [.type "tuple"] (fun k => k == "tuple") (ownT [("Sum", false), ("Loop", false)])
  i_list_tuple : IsF K [.type "list", .type "tuple"] (fun k => k == "list" || k == "tuple") (ownT [("Sum", false), ("Loop", false)])
  i_int_str : IsF K [.type "int", .type "str"] (fun k => k == "int" || k == "bool" || k == "str") (ownT [("Sum", false), ("Loop", false)])
  i_Sum : IsF K [.ref (He.ga K "Sum")] (fun _ => false) (ownT [("Sum", true), ("Loop", false)])
  o_Sum : mg "Sum" = some (.ref (He.ga K "Sum"))
  o_Loop : mg "Loop" = some (.ref (He.ga K "Loop"))
  o_BadLoop : mg "BadLoop" = some (.ref (He.ga K "BadLoop"))
  o_RaceError : mg "RaceError" = some (.ref (He.ga K "RaceError"))
  c_LETTERS : ∃ t, mg "LETTERS" = some (.str "abcdefghijklmnopqrstuvwxyz" t)
  c_MOST_LETTERS : ∃ t, mg "MOST_LETTERS" = some (.int 8 t)
  c_MOST_LOOP_PIPES : ∃ t, mg "MOST_LOOP_PIPES" = some (.int 12 t)
  c_MOST_LOOP_KNOTS : ∃ t, mg "MOST_LOOP_KNOTS" = some (.int 6 t)
  f_own_parts : ∀ c ∈ (["Sum"] : List Str), Cls K (He.ga K c) ∧ NoAttr K (He.ga K c) "own_parts"
  f_loop_pipes : ∀ c ∈ (["Loop"] : List Str), Cls K (He.ga K c) ∧ NoAttr K (He.ga K c) "loop_pipes"
  f_loop_knots : ∀ c ∈ (["Loop"] : List Str), Cls K (He.ga K c) ∧ NoAttr K (He.ga K c) "loop_knots"
  f_loop_names : ∀ c ∈ (["Loop"] : List Str), Cls K (He.ga K c) ∧ NoAttr K (He.ga K c) "loop_names"
  g_isinstance : mg "isinstance" = none
  g_int : mg "int" = none
  g_bool : mg "bool" = none
  g_str : mg "str" = none
  g_dict : mg "dict" = none
  g_list : mg "list" = none
  g_tuple : mg "tuple" = none
  g_len : mg "len" = none
  g_all : mg "all" = none
  g_any : mg "any" = none
  g_sorted : mg "sorted" = none
  g_range : mg "range" = none
  g_enumerate : mg "enumerate" = none
  g_abs : mg "abs" = none
  g_repr : mg "repr" = none
  g_sum : mg "sum" = none
  g_min : mg "min" = none
  g_max : mg "max" = none
  g_zip : mg "zip" = none
end K28
namespace K28
open PySem PySem.Spec PyProof.Rows L2 DL
/-! ### the defs' plain laws -/
theorem isA_ins {t : String → Bool} {o : List (Str × Bool)} {c : Str} {fs : List (Str × D)} : isA t (ownT o) (.ins c fs) = o.lookup c := rfl
theorem okD_ins {c : Str} {fs : List (Str × D)} (h : okD (.ins c fs) = true) : c = "Sum" ∨ c = "Loop" := by
  unfold okD at h
  simpa using h
/-- isinstance of a known thing -/
def isBl : D → Bool
  | .bl _ => true
  | _ => false
def isStr : D → Bool
  | .str _ => true
  | _ => false
def isTup : D → Bool
  | .tup _ => true
  | _ => false
def isDct : D → Bool
  | .dct _ => true
  | _ => false
theorem i_int_ok {d : D} (h : okD d = true) : i_int d = some (isNum d || isBl d) := by
  cases d with
  | ins c fs => rcases okD_ins h with rfl | rfl <;> rfl
  | exc _ _ => cases h
  | _ => rfl
theorem i_bool_ok {d : D} (h : okD d = true) : i_bool d = some (isBl d) := by
  cases d with
  | ins c fs => rcases okD_ins h with rfl | rfl <;> rfl
  | exc _ _ => cases h
  | _ => rfl
theorem i_str_ok {d : D} (h : okD d = true) : i_str d = some (isStr d) := by
  cases d with
  | ins c fs => rcases okD_ins h with rfl | rfl <;> rfl
  | exc _ _ => cases h
  | _ => rfl
theorem i_tuple_ok {d : D} (h : okD d = true) : i_tuple d = some (isTup d) := by
  cases d with
  | ins c fs => rcases okD_ins h with rfl | rfl <;> rfl
  | exc _ _ => cases h
  | _ => rfl
theorem i_dict_ok {d : D} (h : okD d = true) : i_dict d = some (isDct d) := by
  cases d with
  | ins c fs => rcases okD_ins h with rfl | rfl <;> rfl
  | exc _ _ => cases h
  | _ => rfl
theorem i_list_tuple_ok {d : D} (h : okD d = true) : i_list_tuple d = some (isList d) := by
  cases d with
  | ins c fs => rcases okD_ins h with rfl | rfl <;> rfl
  | exc _ _ => cases h
  | _ => rfl
theorem i_Sum_ok {d : D} (h : okD d = true) : i_Sum d = some (isSum d) := by
  cases d with
  | ins c fs => rcases okD_ins h with rfl | rfl <;> rfl
  | exc _ _ => cases h
  | _ => rfl
/-- isinstance of a slot's thing -/
theorem wIsi_at {ia : D → Option Bool} {i : Nat} {d : D} {b : Bool} {env : EnvD} {Q : R → EnvD → Prop} (hi : env[i]? = some (.im d)) (h : ia d = some b) (q : Q (.sh (.bl b)) env) : wIsi ia (wVar i) env Q := by
  unfold wIsi wVar
  rw [hi]
  show (match (pk env (.sh d)).bind ia with | some b => Q (.sh (.bl b)) env | none => False)
  show (match ia d with | some b => Q (.sh (.bl b)) env | none => False)
  rw [h]
  exact q
theorem wVar_im {i : Nat} {d : D} {env : EnvD} {Q : R → EnvD → Prop} (hi : env[i]? = some (.im d)) (q : Q (.sh d) env) : wVar i env Q := by
  unfold wVar
  rw [hi]
  exact q
theorem p_is_number (args : List Sl) (Qd : R → EnvD → Prop) (Ed : XD → EnvD → Prop) (h : s_is_number args Qd Ed) : b_is_number (args ++ uns 0) (ends 1 Qd) := by
  obtain ⟨d, rfl, h1, h2⟩ := h
  unfold b_is_number sRet wAndV
  show wIsi i_int (wVar 0) [.im d] _
  refine wIsi_at (i := 0) (env := [.im d]) rfl (i_int_ok h1) ?_
  cases d <;> first | (cases h1; done) | (refine (show wIsi i_bool (wVar 0) [.im _] _ from wIsi_at (i := 0) (env := [.im _]) rfl (i_bool_ok h1) ?_); exact h2) | exact h2
theorem p_is_from (args : List Sl) (Qd : R → EnvD → Prop) (Ed : XD → EnvD → Prop) (h : s_is_from args Qd Ed) : b_is_from (args ++ uns 0) (ends 2 Qd) := by
  obtain ⟨d, n, rfl, h1, h2⟩ := h
  refine ⟨List.nodup_nil, rfl, d, rfl, h1, ?_⟩
  cases d <;> exact h2
theorem p_is_list (args : List Sl) (Qd : R → EnvD → Prop) (Ed : XD → EnvD → Prop) (h : s_is_list args Qd Ed) : b_is_list (args ++ uns 0) (ends 1 Qd) := by
  obtain ⟨d, rfl, h1, h2⟩ := h
  exact (show wIsi i_list_tuple (wVar 0) [.im d] _ from wIsi_at (i := 0) (env := [.im d]) rfl (i_list_tuple_ok h1) h2)
/-- a list comprehension over things that leaves the names as they are: each thing gives one plain thing -/
theorem lcGo_map {wg : WG} {we : WE} {vs : List Nat} {env : EnvD} {f : D → D} {Q : List D → EnvD → Prop} : ∀ (ds acc : List D), acc.length + ds.length ≤ sizeLine → (∀ d ∈ ds, ∀ P : R → EnvD → Prop, (∀ env2, wipeE env2 vs = env → P (.sh (f d)) env2) → wg d env fun env1 => we env1 P) → Q (acc ++ ds.map f) env → lcGo wg wYes we vs ds acc env Q
  | [], acc, _, _, q => by simpa [lcGo] using q
  | d :: ds, acc, hl, h, q => by
    simp only [List.length_cons] at hl
    show wg d env fun env1 => wYes env1 fun b env2 => if b = true then we env2 fun r env3 => fz r env3 fun x env4 => acc.length < sizeLine ∧ lcGo wg wYes we vs ds (acc ++ [x]) (wipeE env4 vs) Q else lcGo wg wYes we vs ds acc (wipeE env2 vs) Q
    refine h d List.mem_cons_self _ fun env2 he => ?_
    show acc.length < sizeLine ∧ lcGo wg wYes we vs ds (acc ++ [f d]) (wipeE env2 vs) Q
    rw [he]
    refine ⟨by omega, lcGo_map ds _ (by simp; omega) (fun d hd => h d (List.mem_cons_of_mem _ hd)) ?_⟩
    simpa using q
theorem lenD_str {x : Str} (h : x.length ≤ sizeLine) : lenD (.str x) = some x.length := by
  show (if x.length ≤ sizeLine then some x.length else none) = _
  rw [if_pos h]
theorem charsD_length (x : Str) : (charsD x).length = x.length := by simp [charsD, Str.length]
theorem blsD_chars (x : Str) : blsD ((charsD x).map fun d => match d with | .str ⟨⟨[c]⟩⟩ => D.bl (decide (c ∈ letters.cps.toList)) | _ => .non) = some (x.cps.toList.map fun c => decide (c ∈ letters.cps.toList)) := by
  have : ((charsD x).map fun d => match d with | .str ⟨⟨[c]⟩⟩ => D.bl (decide (c ∈ letters.cps.toList)) | _ => .non) = (x.cps.toList.map fun c => decide (c ∈ letters.cps.toList)).map D.bl := by
    simp [charsD, List.map_map]
  rw [this, blsD_map]
theorem p_is_name (args : List Sl) (Qd : R → EnvD → Prop) (Ed : XD → EnvD → Prop) (h : s_is_name args Qd Ed) : b_is_name (args ++ uns 1) (ends 1 Qd) := by
  obtain ⟨d, rfl, h1, h2⟩ := h
  cases d with
  | str x =>
    have hx : x.length ≤ sizeLine := by simpa [okD] using h1
    have hs := i_str_ok h1
    by_cases hl : 1 ≤ x.length ∧ x.length ≤ 8
    · have h8 : (x.length : Int) ≤ 8 := by omega
      have h9 : (1 : Int) ≤ x.length := by omega
      simp [wVar, wC, wCons, wNil, wTup, wLst, wB, wBl, wTru, wNotT, wAndT, wOrT, wAndV, wOrV, wNotV, wIfE, wChain, wCB, wIsi, wFld, wIt, wItems, sSeq, sIf, sRet, sRetN, sNext, sSet, sDrop, sFor, forGo, retR, setSl, fz, fzs, pk, pks, R.hold, fzm, fLen, lenD, fAll, fIx, fIn, itemsD, kD, truD, b_is_name, hs, isStr, uns, hx, h8, h9, wLc]
      refine ⟨⟨List.nodup_cons.mpr ⟨fun h => (nomatch h), List.nodup_nil⟩, fun v hv => ?_⟩, lcGo_map (f := fun d => match d with | .str ⟨⟨[c]⟩⟩ => D.bl (decide (c ∈ letters.cps.toList)) | _ => .non) (charsD x) [] ?_ (fun d hd P hP => ?_) ?_⟩
      · rw [List.mem_singleton.mp hv]
        exact ⟨(by decide : 1 < 2), .inl rfl⟩
      · rw [charsD_length]
        simpa using hx
      · obtain ⟨c, hc, rfl⟩ := List.mem_map.mp hd
        exact ⟨(by decide : 1 < 2), hP [.im (.str x), .im (.str ⟨#[c]⟩)] rfl⟩
      · refine ⟨rfl, ?_⟩
        rw [List.nil_append, blsD_chars]
        have e : isName (.str x) = (x.cps.toList.map fun c => decide (c ∈ letters.cps.toList)).all id := by
          simp only [isName, nameOk, decide_eq_true hl, Bool.true_and, List.all_map]
          rfl
        rw [e] at h2
        exact h2
    · by_cases h9 : (1 : Int) ≤ x.length
      · have h8 : ¬ (x.length : Int) ≤ 8 := by omega
        have hn : nameOk x = false := by simp [nameOk]; omega
        simpa [wVar, wC, wCons, wNil, wTup, wLst, wB, wBl, wTru, wNotT, wAndT, wOrT, wAndV, wOrV, wNotV, wIfE, wChain, wCB, wIsi, wFld, wIt, wItems, sSeq, sIf, sRet, sRetN, sNext, sSet, sDrop, sFor, forGo, retR, setSl, fz, fzs, pk, pks, R.hold, fzm, fLen, lenD, fAll, fIx, fIn, itemsD, kD, truD, b_is_name, hs, isStr, uns, hx, h8, h9, isName, hn] using h2
      · have hn : nameOk x = false := by simp [nameOk]; omega
        simpa [wVar, wC, wCons, wNil, wTup, wLst, wB, wBl, wTru, wNotT, wAndT, wOrT, wAndV, wOrV, wNotV, wIfE, wChain, wCB, wIsi, wFld, wIt, wItems, sSeq, sIf, sRet, sRetN, sNext, sSet, sDrop, sFor, forGo, retR, setSl, fz, fzs, pk, pks, R.hold, fzm, fLen, lenD, fAll, fIx, fIn, itemsD, kD, truD, b_is_name, hs, isStr, uns, hx, h9, isName, hn] using h2
  | exc _ _ => cases h1
  | _ => simpa [wVar, wC, wCons, wNil, wTup, wLst, wB, wBl, wTru, wNotT, wAndT, wOrT, wAndV, wOrV, wNotV, wIfE, wChain, wCB, wIsi, wFld, wIt, wItems, sSeq, sIf, sRet, sRetN, sNext, sSet, sDrop, sFor, forGo, retR, setSl, fz, fzs, pk, pks, R.hold, fzm, fLen, lenD, fAll, fIx, fIn, itemsD, kD, truD, b_is_name, i_str_ok h1, isStr, uns, isName] using h2
theorem atI_at {α : Type} {xs : List α} {i : Nat} (h : i < xs.length) : atI xs (i : Int) = some xs[i] := by
  have z : ixN xs.length (i : Int) = some i := by
    unfold ixN
    rw [if_pos (by omega), if_pos (by omega)]
    simp
  simp [atI, z, h]
theorem p_is_loop_pipe (args : List Sl) (Qd : R → EnvD → Prop) (Ed : XD → EnvD → Prop) (h : s_is_loop_pipe args Qd Ed) : b_is_loop_pipe (args ++ uns 0) (ends 1 Qd) := by
  obtain ⟨d, rfl, h1, h0, h2⟩ := h
  have tv : Tv (wNotT (wBl (wIsi i_tuple (wVar 0)))) [.im d] (!isTup d) [.im d] := .not (.bl (.isi (.var rfl) rfl (i_tuple_ok h1)))
  cases d with
  | tup ds =>
    have h0 := h0 ds rfl
    have t2 : Tv (wBl (wNe own0 0 (wCB fLen (wCons (wVar 0) (wNil))) (wC (.int 4)))) [.im (.tup ds)] (!decide (((ds.length : Nat) : Int) = 4)) [.im (.tup ds)] := .bl (.neI (.len (.var rfl) rfl rfl) .cst)
    by_cases hl : ds.length = 4
    · have e4 : decide (((ds.length : Nat) : Int) = 4) = true := decide_eq_true (by omega)
      rw [e4] at t2
      obtain ⟨a, b, c, e, rfl⟩ : ∃ a b c e, ds = [a, b, c, e] := by
        match ds, hl with
        | [a, b, c, e], _ => exact ⟨a, b, c, e, rfl⟩
      have ha : okD a = true := h0 a (by simp)
      have hb : okD b = true := h0 b (by simp)
      have hc : okD c = true := h0 c (by simp)
      have he : okD e = true := h0 e (by simp)
      have nm : ∀ (i : Int) (x : D), okD x = true → atI [a, b, c, e] i = some x → Tv (wNotT (wBl (wCall s_is_name [false] [] (wCons (wB fIx (wVar 0) (wC (.int i))) (wNil)) (fun _ _ => False)))) [.im (.tup [a, b, c, e])] (!isName x) [.im (.tup [a, b, c, e])] :=
        fun i x hx hi => .not (.bl (.call1 (.ixT (.var rfl) .cst hi) (fun Q E q => ⟨x, rfl, hx, q⟩) fun Q q => q))
      refine (tv.orF (t2.orF ((nm 0 a ha rfl).or (nm 1 b hb rfl)))) _ ?_
      cases na : isName a with
      | false =>
        have e1 : isPipe (.tup [a, b, c, e]) = false := by simp [isPipe, na]
        rw [e1] at h2
        exact h2
      | true =>
        cases nb : isName b with
        | false =>
          have e1 : isPipe (.tup [a, b, c, e]) = false := by simp [isPipe, nb]
          rw [e1] at h2
          exact h2
        | true =>
          obtain ⟨x, rfl⟩ : ∃ x, a = .str x := by cases a <;> first | exact ⟨_, rfl⟩ | cases na
          obtain ⟨y, rfl⟩ : ∃ y, b = .str y := by cases b <;> first | exact ⟨_, rfl⟩ | cases nb
          have v := (Ev.neS (own := own0) (n := 0) (.ixT (.var rfl) .cst rfl) (.ixT (.var rfl) .cst rfl) : Ev (wNe own0 0 (wB fIx (wVar 0) (wC (.int 0))) (wB fIx (wVar 0) (wC (.int 1)))) [.im (.tup [.str x, .str y, c, e])] _ [.im (.tup [.str x, .str y, c, e])])
          have w1 := (Ev.isi (ia := i_Sum) (.ixT (.var rfl) .cst rfl) rfl (i_Sum_ok hc) : Ev (wIsi i_Sum (wB fIx (wVar 0) (wC (.int 2)))) [.im (.tup [.str x, .str y, c, e])] _ [.im (.tup [.str x, .str y, c, e])])
          have w2 := (Ev.isi (ia := i_Sum) (.ixT (.var rfl) .cst rfl) rfl (i_Sum_ok he) : Ev (wIsi i_Sum (wB fIx (wVar 0) (wC (.int 3)))) [.im (.tup [.str x, .str y, c, e])] _ [.im (.tup [.str x, .str y, c, e])])
          refine (v.and (w1.and w2)) _ ?_
          have e1 : isPipe (.tup [.str x, .str y, c, e]) = (!decide (x = y) && (isSum c && isSum e)) := by simp [isPipe, na, nb, Bool.and_assoc]
          rw [e1] at h2
          exact h2
    · have e4 : decide (((ds.length : Nat) : Int) = 4) = false := decide_eq_false (by omega)
      rw [e4] at t2
      refine (tv.orF t2.orT) _ ?_
      have e1 : isPipe (.tup ds) = false := by
        unfold isPipe
        split
        · rename_i q
          cases q
          exact absurd rfl hl
        · rfl
      rw [e1] at h2
      exact h2
  | exc _ _ => cases h1
  | _ => (unfold b_is_loop_pipe sSeq sIf; refine tv.orT _ ?_; exact h2)
theorem p_law_pick (args : List Sl) (Qd : R → EnvD → Prop) (Ed : XD → EnvD → Prop) (h : s_law_pick args Qd Ed) : b_law_pick (args ++ uns 0) (ends 2 Qd) := by
  obtain ⟨n, xs, rfl, hne, hl, h⟩ := h
  have pos : (0 : Int) < xs.length := by
    cases xs with
    | nil => exact absurd rfl hne
    | cons _ _ => simp
  refine ⟨by simp [ixs], rfl, n, xs.length, rfl, pos, by omega, fun i hi => ?_⟩
  have hi2 : i < xs.length := by omega
  have e : atI xs (i : Int) = some xs[i] := by
    have z : ixN xs.length (i : Int) = some i := by
      unfold ixN
      rw [if_pos (by omega), if_pos (by omega)]
      simp
    simp [atI, z, hi2]
  have q := h xs[i] (List.getElem_mem hi2)
  show (match atI xs (i : Int) with | some d => retR (.sh d) [Sl.st n, Sl.im (.lst xs)] (ends 2 Qd).rt | none => False)
  rw [e]
  exact q
theorem p_law_draw (args : List Sl) (Qd : R → EnvD → Prop) (Ed : XD → EnvD → Prop) (h : s_law_draw args Qd Ed) : b_law_draw (args ++ uns 1) (ends 2 Qd) := by
  obtain ⟨n, room, rfl, h0, h1, h⟩ := h
  have last : ∀ m, n ≤ m → sSeq (sSet 2 (wB fMod (wCB (fInt1 .int) (wCons (wStI 0 false) (wNil))) (wVar 1))) (sSeq (sStP 0 false (wB fDiv (wStI 0 false) (wVar 1))) (sRet (wVar 2))) [.st m, .im (.int room), .un] (ends 2 Qd) := by
    intro m hm
    refine ⟨m, rfl, fun r hr _ => ?_⟩
    have ne : room ≠ 0 := by omega
    have p1 : 0 ≤ r % room := Int.emod_nonneg r ne
    have p2 : r % room < room := Int.emod_lt_of_pos r h0
    refine ⟨h0, (by decide : 2 < 3), m, rfl, fun r2 hr2 _ => ?_⟩
    refine ⟨?_, m, r2 / room, n, rfl, rfl, Int.ediv_nonneg hr2 (by omega), hm, (fun e => nomatch e), ?_⟩
    · exact ⟨h0, by omega⟩
    have q := h (r % room).toNat (by omega)
    rw [Int.toNat_of_nonneg p1] at q
    exact q
  refine ⟨n + 1, rfl, fun r hr _ => ?_⟩
  refine ⟨fun z => (by cases z), fun z => (by cases z), fun v w hv hw => (by cases hv; cases hw; rfl), eqV (.int r) (.int 0), ⟨.int r, .int 0, rfl, rfl, rfl⟩, ?_⟩
  generalize eqV (.int r) (.int 0) = b
  cases b with
  | false => exact last (n + 1) (by omega)
  | true =>
    refine ⟨⟨n + 1, rfl⟩, fun x hx => ?_, ?_⟩
    · exact ⟨n + 1, x, n + 1, rfl, rfl, hx, Nat.le_refl _, (fun e => nomatch e), last (n + 1) (by omega)⟩
    · refine ⟨by simp [ixs], rfl, n, rfl, fun x hx => ?_⟩
      exact ⟨n, x, n, rfl, rfl, hx, Nat.le_refl _, (fun e => nomatch e), last n (Nat.le_refl _)⟩
/-- the cells mixed in -/
theorem mix_in {n : Nat} {t f p : Int} {De : DEnds} (ht : 0 ≤ t) (hp : 0 < p) (hp2 : p < 4294967296) : ∀ (cs : List Int) (b : Int) (x : Sl), (∀ c ∈ cs, 0 ≤ c) → 0 ≤ b → b < 1000000000000000000 → (∀ (b : Int) (x : Sl), 0 ≤ b → b < 1000000000000000000 → De.nx [.st n, .im (.int t), .im (.int f), .im (.int p), .im (.int b), x]) →
    forGo (gN 5) (sSet 4 (wB fMod (wCB (fInt1 .int) (wCons (wB fAdd (wB fAdd (wB fMul (wVar 4) (wC (.int 48271))) (wVar 5)) (wVar 1)) (wNil))) (wVar 3))) (cs.map D.int) [.st n, .im (.int t), .im (.int f), .im (.int p), .im (.int b), x] De
  | [], b, x, _, h0, h1, q => q b x h0 h1
  | c :: cs, b, x, hc, h0, h1, q => by
    refine ⟨(by decide : 5 < 6), ?_⟩
    refine ⟨.inr ⟨by decide, by decide⟩, hp, (by decide : 4 < 6), ?_⟩
    have e0 : 0 ≤ (b * 48271 + c + t) % p := Int.emod_nonneg _ (by omega)
    have e1 : (b * 48271 + c + t) % p < p := Int.emod_lt_of_pos _ hp
    exact mix_in ht hp hp2 cs _ _ (fun z hz => hc z (List.mem_cons_of_mem _ hz)) e0 (by omega) q
theorem mix_out {n : Nat} {t : Int} {De : DEnds} (ht : 0 ≤ t) (ht1 : t ≤ 1000000000) : ∀ (ps : List Int) (f : Int) (x y z : Sl), (∀ p ∈ ps, 0 < p ∧ p < 4294967296) → 0 ≤ f → (∀ (f : Int) (x y z : Sl), 0 ≤ f → De.nx [.st n, .im (.int t), .im (.int f), x, y, z]) →
    forGo (gN 3) (sSeq (sSet 4 (wB fAdd (wB fMul (wC (.int 69621)) (wVar 1)) (wB fDiv (wVar 3) (wC (.int 41))))) (sSeq (sFor (wIt (wStC 0)) (gN 5) (sSet 4 (wB fMod (wCB (fInt1 .int) (wCons (wB fAdd (wB fAdd (wB fMul (wVar 4) (wC (.int 48271))) (wVar 5)) (wVar 1)) (wNil))) (wVar 3)))) (sSet 2 (wB fAdd (wB fMul (wVar 2) (wC (.int 2147483659))) (wB fMod (wCB (fInt1 .int) (wCons (wB fPow (wVar 4) (wC (.int 5))) (wNil))) (wVar 3)))))) (ps.map D.int) [.st n, .im (.int t), .im (.int f), x, y, z] De
  | [], f, x, y, z, _, h0, q => q f x y z h0
  | p :: ps, f, x, y, z, hp, h0, q => by
    obtain ⟨p0, p1⟩ := hp p List.mem_cons_self
    have d0 : 0 ≤ p / 41 := Int.ediv_nonneg (by omega) (by decide)
    have d1 : p / 41 ≤ p := Int.ediv_le_self _ (by omega)
    refine ⟨(by decide : 3 < 6), ?_⟩
    refine ⟨.inl ⟨by decide, by decide⟩, ⟨by decide, by decide⟩, (by decide : 4 < 6), ?_⟩
    refine ⟨⟨n, rfl⟩, fun cs hcs => ?_⟩
    refine mix_in ht p0 p1 cs _ _ hcs (by omega) (by omega) fun b x b0 b1 => ?_
    have e0 : 0 ≤ (b ^ 5) % p := Int.emod_nonneg _ (by omega)
    refine ⟨.inr ⟨by decide, by decide⟩, ⟨by decide, by decide, by omega⟩, p0, (by decide : 2 < 6), ?_⟩
    have e0 : 0 ≤ (b ^ (5 : Int).toNat) % p := Int.emod_nonneg _ (by omega)
    have e1 : 0 ≤ f * 2147483659 := Int.mul_nonneg h0 (by decide)
    exact mix_out ht ht1 ps _ _ _ _ (fun z hz => hp z (List.mem_cons_of_mem _ hz)) (by omega) q
theorem p_law_mixed (args : List Sl) (Qd : R → EnvD → Prop) (Ed : XD → EnvD → Prop) (h : s_law_mixed args Qd Ed) : b_law_mixed (args ++ uns 5) (ends 1 Qd) := by
  obtain ⟨n, rfl, h⟩ := h
  refine ⟨n + 1, rfl, fun t ht htn => ?_⟩
  have htn := htn rfl
  refine ⟨(by decide : 1 < 6), (by decide : 2 < 6), ?_⟩
  refine ⟨n + 1, t + 1, n, rfl, rfl, by omega, by omega, fun _ => by omega, ?_⟩
  refine mix_out (n := n) (t := t + 1) (by omega) (by omega) [2147483549, 2147483543, 2147483497, 2147483489] 0 _ _ _ (by decide) (by decide) fun f x y z f0 => ?_
  exact h f f0
theorem pop_at {α : Type} {xs : List α} {i : Nat} (h : i < xs.length) : seqIndex? (i : Int) xs.length = some i := by
  unfold seqIndex?
  simp
  omega
theorem erase_perm {α : Type} : ∀ (xs : List α) (i : Nat) (h : i < xs.length), (xs[i] :: xs.eraseIdx i).Perm xs
  | x :: xs, 0, _ => List.Perm.refl _
  | x :: xs, i + 1, h => by
    simp only [List.getElem_cons_succ, List.eraseIdx_cons_succ]
    exact (List.Perm.swap x _ _).trans ((erase_perm xs i (by simpa using h)).cons x)
theorem shuf {n : Nat} {xs : List D} {De : DEnds} : ∀ (k : Nat) (left found : List D), left.length = k → left.length + found.length < 100000 → (left ++ found).Perm xs → (∀ ys, ys.Perm xs → De.nx [.st n, .im (.lst xs), .ow (.lst []), .ow (.lst ys)]) →
    whGo (wBl (wNe own0 1 (wVar 2) (wLst (wNil)))) (sDrop (wApp (wVar 3) (wCons (wPopAt (wVar 2) (wCons (wCall s_law_draw [true, false] [] (wCons (wVar 0) (wCons (wCB fLen (wCons (wVar 2) (wNil))) (wNil))) (fun _ _ => False)) (wNil))) (wNil)))) (k + 1) [.st (n + k), .im (.lst xs), .ow (.lst left), .ow (.lst found)] De
  | 0, left, found, hl, _, hp, q => by
    obtain rfl := List.length_eq_zero_iff.mp hl
    refine (Tv.bl (.neL0 (.varO rfl) rfl)) _ ?_
    exact q found hp
  | k + 1, left, found, hl, hs, hp, q => by
    have ne : decide (left = []) = false := decide_eq_false fun e => by rw [e] at hl; cases hl
    refine (Tv.bl (.neL0 (xs := left) (.varO rfl) rfl)) _ ?_
    rw [ne]
    refine ⟨⟨found, rfl⟩, ⟨left, rfl⟩, by simp [ixs], rfl, n + k, left.length, rfl, by omega, by omega, fun i hi => ?_⟩
    have hi2 : i < left.length := by omega
    refine ⟨by omega, by omega, i, left[i], pop_at hi2, List.getElem?_eq_getElem hi2, ?_⟩
    refine ⟨by rw [sizeLine_eq]; omega, ?_⟩
    refine shuf k (left.eraseIdx i) (found ++ [left[i]]) (by rw [List.length_eraseIdx_of_lt hi2]; omega) (by rw [List.length_eraseIdx_of_lt hi2]; simp; omega) ?_ q
    refine List.Perm.trans ?_ hp
    rw [← List.append_assoc]
    refine List.perm_append_comm.trans ?_
    rw [List.singleton_append]
    refine List.Perm.trans ?_ (List.Perm.append_right found (erase_perm left i hi2))
    rfl
theorem p_law_shuffled (args : List Sl) (Qd : R → EnvD → Prop) (Ed : XD → EnvD → Prop) (h : s_law_shuffled args Qd Ed) : b_law_shuffled (args ++ uns 2) (ends 2 Qd) := by
  obtain ⟨n, xs, rfl, hl, h⟩ := h
  refine ⟨(by decide : 2 < 4), (by decide : 3 < 4), xs.length + 1, ?_⟩
  refine shuf xs.length xs [] rfl (by simpa using hl) (by simp) fun ys hy => ?_
  exact h ys hy
end K28
namespace K28
open PySem PySem.Spec PyProof.Rows L2 DL
/-! ### ends_of, _law_knots -/
theorem endsL_cons (x : D) (xs : List D) : endsL (x :: xs) = endsD x ++ endsL xs := by simp [endsL]
theorem at0 {a : D} {l : List D} : atI (a :: l) 0 = some a := by simp [atI, ixN]
theorem at1 {a b : D} {l : List D} : atI (a :: b :: l) 1 = some b := by
  have h : (1 : Int) < ((l.length + 1 + 1 : Nat) : Int) := by omega
  simp only [atI, ixN, List.length_cons]
  rw [if_pos (by decide), if_pos h]
  rfl
theorem ends_go {d : D} {De : DEnds} : ∀ (xs : List D) (ks : List Str) (y : Sl), (∀ x ∈ xs, HasEnds x) → ks.Nodup → ks.length + 2 * xs.length ≤ 60 →
    (∀ ks' y', ks'.Nodup → ks'.length ≤ 60 → (∀ s, s ∈ ks' ↔ s ∈ ks ∨ s ∈ endsL xs) → De.nx [.im d, .ow (.dct (bK ks')), y']) →
    forGo (gN 2) (sSeq (sPut (wC (.bl true)) (wVar 1) (wB fIx (wVar 2) (wC (.int 0)))) (sPut (wC (.bl true)) (wVar 1) (wB fIx (wVar 2) (wC (.int 1))))) xs [.im d, .ow (.dct (bK ks)), y] De
  | [], ks, y, _, nd, hl, q => q ks y nd (by simpa using hl) fun s => ⟨.inl, fun h => h.elim id fun z => (by cases z)⟩
  | x :: xs, ks, y, he, nd, hl, q => by
    obtain ⟨a, b, l, rfl⟩ := he x List.mem_cons_self
    simp only [List.length_cons] at hl
    have l1 := addK_len (ks := ks) (x := a)
    have l2 := addK_len (ks := addK ks a) (x := b)
    refine ⟨(by decide : 2 < 3), ?_⟩
    refine seq_put (env := [.im d, .ow (.dct (bK ks)), .im (.tup (.str a :: .str b :: l))]) (kvs := bK ks) .cst (.ixT (.var rfl) .cst at0) rfl (by rw [len_bK]; exact small_line (by omega)) ?_
    rw [putD_bK]
    refine put_key (env := [.im d, .ow (.dct (bK (addK ks a))), .im (.tup (.str a :: .str b :: l))]) (kvs := bK (addK ks a)) .cst (.ixT (.var rfl) .cst at1) rfl (by rw [len_bK]; exact small_line (by omega)) ?_
    rw [putD_bK]
    refine ends_go xs _ _ (fun z hz => he z (List.mem_cons_of_mem _ hz)) (addK_nodup (addK_nodup nd)) (by omega) fun ks' y' n' l' h' => q ks' y' n' l' fun s => ?_
    rw [h' s, addK_mem, addK_mem, endsL_cons]
    simp [endsD, or_assoc]
theorem just_of {ks ys zs : List Str} (nd : ks.Nodup) (h : ∀ s, s ∈ ks ↔ s ∈ zs) (hp : ys.Perm ks) (hs : sortedS ys = true) : Just zs ys :=
  ⟨hs, hp.nodup_iff.mpr nd, fun x => hp.mem_iff.trans (h x)⟩
theorem p_ends_of (args : List Sl) (Qd : R → EnvD → Prop) (Ed : XD → EnvD → Prop) (h : s_ends_of args Qd Ed) : b_ends_of (args ++ uns 2) (ends 1 Qd) := by
  obtain ⟨d, xs, rfl, hd, he, hl, h⟩ := h
  have hi : itemsD d = some xs := by rcases hd with rfl | rfl <;> rfl
  refine seq_set_fr (d := .dct []) (env := [.im d, .un, .un]) (fun _ q => q) (by decide : 1 < 3) ?_
  refine seq_for (env := [.im d, .ow (.dct []), .un]) (.itS (.var rfl) hi) ?_
  refine ends_go xs [] _ he List.nodup_nil (by simp; omega) fun ks y nd kl hk => ?_
  refine ⟨ks, keys_bK ks, by omega, fun ys hp hs => ?_⟩
  refine h ys (just_of nd (fun s => (hk s).trans ⟨fun z => z.elim (fun w => (by cases w)) id, .inr⟩) hp hs)
theorem p_law_knots (args : List Sl) (Qd : R → EnvD → Prop) (Ed : XD → EnvD → Prop) (h : s_law_knots args Qd Ed) : b_law_knots (args ++ uns 2) (ends 1 Qd) := by
  obtain ⟨xs, rfl, he, hl, h⟩ := h
  refine seq_set_fr (d := .dct []) (env := [.im (.lst xs), .un, .un]) (fun _ q => q) (by decide : 1 < 3) ?_
  refine seq_for (env := [.im (.lst xs), .ow (.dct []), .un]) (.itS (d := .lst xs) (ds := xs) (.var rfl) rfl) ?_
  refine ends_go xs [] _ he List.nodup_nil (by simp; omega) fun ks y nd kl hk => ?_
  refine ⟨ks, keys_bK ks, by omega, fun ys hp hs => ?_⟩
  refine h ys (just_of nd (fun s => (hk s).trans ⟨fun z => z.elim (fun w => (by cases w)) id, .inr⟩) hp hs)
/-! ### properties -/
/-! ### Sum -/
theorem is_dct {kvs : List (Key × D)} : i_dict (.dct kvs) = some true := i_dict_ok (d := .dct kvs) rfl
end K28
namespace DL
open PySem PySem.Spec PyProof.Rows L2
section
variable {wk wv : WE} {wt : WT} {env : EnvD} {k : Nat}
/-- {x: f(x) for x in .. if c(x)} -/
theorem dcGo_strF {f : Str → Int} {c : Str → Bool} {Q : List (Key × D) → EnvD → Prop} (hu : env[k]? = some .un) : ∀ (ys : List Str) (acc : List (Str × Int)), (acc.map (·.1) ++ ys).Nodup → acc.length + ys.length < 1000 →
    (∀ y ∈ ys, Tv wt (env.set k (.im (.str y))) (c y) (env.set k (.im (.str y))) ∧ Ev wk (env.set k (.im (.str y))) (.sh (.str y)) (env.set k (.im (.str y))) ∧ Ev wv (env.set k (.im (.str y))) (.sh (.int (f y))) (env.set k (.im (.str y)))) →
    Q (dK (acc ++ (ys.filter c).map fun y => (y, f y))) env → dcGo (gN k) wt wk wv [k] (ys.map D.str) (dK acc) env Q
  | [], acc, _, _, _, q => by simpa [dcGo] using q
  | y :: ys, acc, nd, hl, h, q => by
    obtain ⟨h1, h2, h3⟩ := h y List.mem_cons_self
    have lt : k < env.length := (List.getElem?_eq_some_iff.mp hu).1
    simp only [List.length_cons] at hl
    have ew : wipeE (env.set k (.im (.str y))) [k] = env := by
      show (env.set k (.im (.str y))).set k .un = env
      rw [List.set_set]
      have e : env[k] = .un := (List.getElem?_eq_some_iff.mp hu).2
      rw [← e, List.set_getElem_self]
    refine ⟨lt, h1 _ ?_⟩
    cases hc : c y with
    | false =>
      rw [if_neg Bool.false_ne_true, ew]
      rw [List.filter_cons_of_neg (by simp [hc])] at q
      exact dcGo_strF hu ys acc (nd.sublist (List.Sublist.append_left (List.sublist_cons_self y ys) _)) (by omega) (fun z hz => h z (List.mem_cons_of_mem _ hz)) q
    | true =>
      rw [if_pos rfl]
      rw [List.filter_cons_of_pos hc] at q
      refine h2 _ (h3 _ ?_)
      refine ⟨by rw [len_dK]; exact small_line (by omega), ?_⟩
      rw [putD_dK]
      have ny : y ∉ acc.map (·.1) := fun z => (List.nodup_append.mp nd).2.2 y z y List.mem_cons_self rfl
      have ep : putP acc y (f y) = acc ++ [(y, f y)] := by
        unfold putP
        rw [if_neg]
        intro z
        obtain ⟨p, hp, e⟩ := List.any_eq_true.mp z
        exact ny (by rw [← of_decide_eq_true e]; exact List.mem_map_of_mem hp)
      rw [ep, ew]
      refine dcGo_strF hu ys (acc ++ [(y, f y)]) (by simpa using nd) (by simp; omega) (fun z hz => h z (List.mem_cons_of_mem _ hz)) ?_
      simpa using q
end
theorem perm_filt {ps : List (Str × Int)} {ys : List Str} (nd : (ps.map (·.1)).Nodup) (hp : ys.Perm (ps.map (·.1))) {g : Int → Bool} : ((ys.filter fun y => g ((getP ps y).getD 0)).map fun y => (y, (getP ps y).getD 0)).Perm (ps.filter fun p => g p.2) := by
  have e := (perm_pairs nd hp).filter fun p => g p.2
  rw [List.filter_map] at e
  exact e
end DL
namespace K28
open PySem PySem.Spec PyProof.Rows L2 DL
theorem perm_pos {ps : List (Str × Int)} {ys : List Str} (nd : (ps.map (·.1)).Nodup) (hp : ys.Perm (ps.map (·.1))) : ((ys.filter fun y => decide (0 < (getP ps y).getD 0)).map fun y => (y, (getP ps y).getD 0)).Perm (posP ps) := perm_filt (g := fun i => decide (0 < i)) nd hp
theorem sum_rest {d : D} {g : Sl} {ps : List (Str × Int)} {Qd : R → EnvD → Prop} (hg : g = .ow (.dct (dK ps)) ∨ g = .im (.dct (dK ps))) (ok : PartsGe ps) (h : ∀ qs, qs.Perm (posP ps) → Qd (.sh .non) [.pm (mkSum qs), .im d]) :
    sSeq (sIf (wOrT (wNotT (wBl (wIsi i_dict (wVar 2)))) (wNotT (wBl (wCB fAll (wCons (wLc (wIt (wVar 2)) (gN 3) (wYes) (wCall s_is_name [false] [] (wCons (wVar 3) (wNil)) (fun _ _ => False)) [3]) (wNil)))))) (sNever) (sNext)) (sSeq (sFor (wIt (wCB fSorted (wCons (wVar 2) (wNil)))) (gN 3) (sIf (wNotT (wBl (wCall s_is_from [false, false] [] (wCons (wB fIx (wVar 2) (wVar 3)) (wCons (wC (.int 0)) (wNil))) (fun _ _ => False)))) (sNever) (sNext))) (sFldD ["Sum"] 0 "own_parts" (wDc (wIt (wCB fSorted (wCons (wVar 2) (wNil)))) (gN 3) (wBl (wB fGt (wB fIx (wVar 2) (wVar 3)) (wC (.int 0)))) (wVar 3) (wB fIx (wVar 2) (wVar 3)) [3])))
      [.pm (.ins "Sum" []), .im d, g, .un] (ends 2 Qd) := by
  obtain ⟨nd, hp, hl⟩ := ok
  have t1 : Tv (wNotT (wBl (wIsi i_dict (wVar 2)))) [.pm (.ins "Sum" []), .im d, g, .un] (!true) [.pm (.ins "Sum" []), .im d, g, .un] := by
    rcases hg with rfl | rfl
    · exact .not (.bl (.isi (.varO rfl) rfl is_dct))
    · exact .not (.bl (.isi (.var rfl) rfl is_dct))
  have it : Iv (wIt (wVar 2)) [.pm (.ins "Sum" []), .im d, g, .un] ((ps.map (·.1)).map D.str) [.pm (.ins "Sum" []), .im d, .im (.dct (dK ps)), .un] := by
    rcases hg with rfl | rfl
    · exact .it (.varO rfl) (fun _ q => q) (congrArg some (keysD_dK ps))
    · exact .itS (.var rfl) (congrArg some (keysD_dK ps))
  have nm : ∀ x ∈ (ps.map (·.1)).map D.str, okD x = true ∧ isName x = true := fun x hx => by
    obtain ⟨y, hy, rfl⟩ := List.mem_map.mp hx
    obtain ⟨p, hp1, rfl⟩ := List.mem_map.mp hy
    have n1 := (hp p hp1).1
    have n2 := n1
    unfold nameOk at n2
    rw [Bool.and_eq_true, decide_eq_true_eq] at n2
    exact ⟨by show decide (p.1.length ≤ sizeLine) = true; rw [decide_eq_true_iff, sizeLine_eq]; omega, n1⟩
  obtain ⟨bs, hb1, hb2⟩ := blsD_true (xs := (ps.map (·.1)).map D.str) (g := fun x => .bl (isName x)) fun x hx => by rw [(nm x hx).2]
  have t2 : Tv (wNotT (wBl (wCB fAll (wCons (wLc (wIt (wVar 2)) (gN 3) (wYes) (wCall s_is_name [false] [] (wCons (wVar 3) (wNil)) (fun _ _ => False)) [3]) (wNil))))) [.pm (.ins "Sum" []), .im d, g, .un] (!bs.all id) [.pm (.ins "Sum" []), .im d, .im (.dct (dK ps)), .un] := by
    refine .not (.bl (.all (ds := ((ps.map (·.1)).map D.str).map fun x => .bl (isName x)) ?_ hb1))
    have e := Ev.lc1 (wt := wYes) (we := wCall s_is_name [false] [] (wCons (wVar 3) (wNil)) (fun _ _ => False)) (c := fun _ => true) (f := fun x => .bl (isName x)) it (k := 3) rfl (by rw [List.length_map, List.length_map]; exact small_line (by omega)) (fun x hx Q q => q)
      (fun x hx _ => .call1 (.var rfl) (fun Q E q => ⟨x, rfl, (nm x hx).1, q⟩) fun Q q => q)
    rw [List.filter_eq_self.mpr (fun _ _ => rfl)] at e
    exact e
  rw [hb2] at t2
  refine seq_if_F (t1.orF t2) ?_
  refine it_sorted (env := [.pm (.ins "Sum" []), .im d, .im (.dct (dK ps)), .un]) (.var rfl) rfl (keys_dK ps) (by rw [List.length_map]; omega) fun ys yp _ => ?_
  have val : ∀ y ∈ ys, ∃ v, getP ps y = some v ∧ 0 ≤ v := fun y hy => by
    obtain ⟨v, h1, h2⟩ := getP_some (yp.mem_iff.mp hy)
    exact ⟨v, h1, (hp _ h2).2⟩
  have tail : ∀ u : Sl, (u = .un ∨ ∃ z, u = .im z) → sFldD ["Sum"] 0 "own_parts" (wDc (wIt (wCB fSorted (wCons (wVar 2) (wNil)))) (gN 3) (wBl (wB fGt (wB fIx (wVar 2) (wVar 3)) (wC (.int 0)))) (wVar 3) (wB fIx (wVar 2) (wVar 3)) [3]) [.pm (.ins "Sum" []), .im d, .im (.dct (dK ps)), u] (ends 2 Qd) := fun u hu => by
    have ok : okW [.pm (.ins "Sum" []), .im d, .im (.dct (dK ps)), u] [3] := okW1 (by rcases hu with rfl | ⟨z, rfl⟩ <;> first | exact .inl rfl | exact .inr ⟨_, rfl⟩)
    refine it_sorted (env := [.pm (.ins "Sum" []), .im d, .im (.dct (dK ps)), u]) (.var rfl) rfl (keys_dK ps) (by rw [List.length_map]; omega) fun zs zp _ => ⟨ok, ?_⟩
    have val : ∀ y ∈ zs, ∃ v, getP ps y = some v ∧ 0 ≤ v := fun y hy => by
      obtain ⟨v, h1, h2⟩ := getP_some (zp.mem_iff.mp hy)
      exact ⟨v, h1, (hp _ h2).2⟩
    refine dcGo_strF (env := [.pm (.ins "Sum" []), .im d, .im (.dct (dK ps)), .un]) (k := 3) (c := fun y => decide (0 < (getP ps y).getD 0)) (f := fun y => (getP ps y).getD 0) rfl zs [] (by simpa using zp.nodup_iff.mpr nd) (by have := zp.length_eq; simp at this; simp; omega) (fun y hy => ?_) ?_
    · obtain ⟨v, h1, h2⟩ := val y hy
      refine ⟨?_, .var rfl, ?_⟩
      · have t := (Tv.bl (.gtI (.ixD (.var rfl) rfl (.var rfl) h1) .cst) : Tv (wBl (wB fGt (wB fIx (wVar 2) (wVar 3)) (wC (.int 0)))) [.pm (.ins "Sum" []), .im d, .im (.dct (dK ps)), .im (.str y)] _ [.pm (.ins "Sum" []), .im d, .im (.dct (dK ps)), .im (.str y)])
        rw [h1]
        exact t
      · rw [h1]
        exact .ixD (.var rfl) rfl (.var rfl) h1
    · refine ⟨rfl, ?_⟩
      have uw := unw_wipe ok
      rw [show wipeE [.pm (.ins "Sum" []), .im d, .im (.dct (dK ps)), u] [3] = [.pm (.ins "Sum" []), .im d, .im (.dct (dK ps)), Sl.un] from rfl] at uw
      rw [uw]
      refine ⟨List.mem_singleton.mpr rfl, by decide, ?_⟩
      exact h _ (perm_pos nd zp)
  have loop : ∀ (zs : List Str), (∀ y ∈ zs, y ∈ ys) → ∀ u : Sl, (u = .un ∨ ∃ z, u = .im z) → forGo (gN 3) (sIf (wNotT (wBl (wCall s_is_from [false, false] [] (wCons (wB fIx (wVar 2) (wVar 3)) (wCons (wC (.int 0)) (wNil))) (fun _ _ => False)))) (sNever) (sNext)) (zs.map D.str) [.pm (.ins "Sum" []), .im d, .im (.dct (dK ps)), u]
      { (ends 2 Qd) with nx := fun e => sFldD ["Sum"] 0 "own_parts" (wDc (wIt (wCB fSorted (wCons (wVar 2) (wNil)))) (gN 3) (wBl (wB fGt (wB fIx (wVar 2) (wVar 3)) (wC (.int 0)))) (wVar 3) (wB fIx (wVar 2) (wVar 3)) [3]) e (ends 2 Qd) } := by
    intro zs
    induction zs with
    | nil => intro _ u hu; exact tail u hu
    | cons z zs ih =>
      intro hz u _
      obtain ⟨v, h1, h2⟩ := val z (hz z List.mem_cons_self)
      refine ⟨(by decide : 3 < 4), ?_⟩
      have c : Tv (wNotT (wBl (wCall s_is_from [false, false] [] (wCons (wB fIx (wVar 2) (wVar 3)) (wCons (wC (.int 0)) (wNil))) (fun _ _ => False)))) [.pm (.ins "Sum" []), .im d, .im (.dct (dK ps)), .im (.str z)] (!isFrom (.int v) 0) [.pm (.ins "Sum" []), .im d, .im (.dct (dK ps)), .im (.str z)] :=
        .not (.bl (.call (as := [.im (.int v), .im (.int 0)]) (.sh (.ixD (.var rfl) rfl (.var rfl) h1) (.sh .cst .nil)) (fun _ q => q) List.nodup_nil rfl fun Q q => ⟨.int v, 0, rfl, rfl, q⟩))
      rw [show isFrom (.int v) 0 = true from decide_eq_true (by omega)] at c
      refine if_F c ?_
      exact ih (fun y hy => hz y (List.mem_cons_of_mem _ hy)) _ (.inr ⟨_, rfl⟩)
  exact loop ys (fun _ h => h) _ (.inl rfl)
theorem p_Sum_init (args : List Sl) (Qd : R → EnvD → Prop) (Ed : XD → EnvD → Prop) (h : s_Sum_init args Qd Ed) : b_Sum_init (args ++ uns 2) (ends 2 Qd) := by
  obtain ⟨d, ps, rfl, hd, ok, h⟩ := h
  rcases hd with ⟨rfl, rfl⟩ | rfl
  · refine seq_set_fr (d := .dct []) (env := [.pm (.ins "Sum" []), .im .non, .un, .un]) (.ifT (.bl (.B (.var rfl) .cst rfl rfl fun _ q => q)) fun _ q => q) (by decide : 2 < 4) ?_
    exact sum_rest (ps := []) (.inl rfl) ok h
  · refine seq_set_sh (d := .dct (dK ps)) (env := [.pm (.ins "Sum" []), .im (.dct (dK ps)), .un, .un]) (.ifF (.bl (.B (.var rfl) .cst rfl rfl fun _ q => q)) (.var rfl)) (by decide : 2 < 4) ?_
    exact sum_rest (ps := ps) (.inr rfl) ok h
end K28
namespace K28
open PySem PySem.Spec PyProof.Rows L2 DL
theorem mem_ddp {x : Str} : ∀ {xs : List Str}, x ∈ ddp xs ↔ x ∈ xs
  | [] => Iff.rfl
  | y :: xs => by
    unfold ddp
    split
    · rename_i h
      rw [mem_ddp, List.mem_cons]
      exact ⟨.inr, fun z => z.elim (fun e => by rw [e]; exact mem_ddp.mp h) id⟩
    · rw [List.mem_cons, List.mem_cons, mem_ddp]
theorem nodup_ddp : ∀ {xs : List Str}, (ddp xs).Nodup
  | [] => List.nodup_nil
  | y :: xs => by
    unfold ddp
    split
    · exact nodup_ddp
    · rename_i h
      exact List.nodup_cons.mpr ⟨h, nodup_ddp⟩
theorem ddp_len {xs ys : List Str} (nd : ys.Nodup) (h : ∀ x, x ∈ ys ↔ x ∈ xs) : ys.length = (ddp xs).length :=
  Nat.le_antisymm (nodup_le nd fun x hx => mem_ddp.mpr ((h x).mp hx)) (nodup_le nodup_ddp fun x hx => (h x).mpr (mem_ddp.mp hx))
/-! ### _law_sum -/
theorem merge_dK : ∀ (ps acc : List (Str × Int)), ((acc ++ ps).map (·.1)).Nodup → mergeD (dK acc) (dK ps) = dK (acc ++ ps)
  | [], acc, _ => by simp [mergeD, dK]
  | p :: ps, acc, nd => by
    show mergeD (putD (dK acc) (.inr p.1) (.int p.2)) (dK ps) = _
    rw [putD_dK]
    have ny : p.1 ∉ acc.map (·.1) := fun z => by
      rw [List.map_append] at nd
      exact (List.nodup_append.mp nd).2.2 p.1 z p.1 List.mem_cons_self rfl
    have ep : putP acc p.1 p.2 = acc ++ [p] := by
      unfold putP
      rw [if_neg]
      intro z
      obtain ⟨q, hq, e⟩ := List.any_eq_true.mp z
      exact ny (by rw [← of_decide_eq_true e]; exact List.mem_map_of_mem hq)
    rw [ep, merge_dK ps (acc ++ [p]) (by rw [List.append_assoc]; exact nd), List.append_assoc]
    rfl
theorem pairs_dK : ∀ ps : List (Str × Int), pairsD (ps.map fun p => .tup [.str p.1, .int p.2]) = some (dK ps)
  | [] => rfl
  | p :: ps => by
    show (kD (.str p.1)).bind (fun k => (pairsD (ps.map fun p => .tup [.str p.1, .int p.2])).map ((k, .int p.2) :: ·)) = _
    rw [pairs_dK ps]
    rfl
/-! ### draws -/
/-- _law_draw called -/
theorem draw_of {n : Nat} {room : Int} {env : EnvD} {Q : R → EnvD → Prop} {we : WE} {tl : EnvD} (he : env = .st (n + 1) :: tl) (hr : Ev we env (.sh (.int room)) env) (h0 : 0 < room) (h1 : room < 1000000) (q : ∀ i : Nat, (i : Int) < room → Q (.sh (.int i)) (.st n :: tl)) :
    wCall s_law_draw [true, false] [] (wCons (wVar 0) (wCons we wNil)) (fun _ _ => False) env Q := by
  subst he
  refine Av.br (.varS rfl) (.sh hr .nil) _ ⟨by simp [ixs], rfl, n, room, rfl, h0, h1, fun i hi => ?_⟩
  exact q i hi
theorem pick_of {n : Nat} {xs : List D} {env env1 : EnvD} {Q : R → EnvD → Prop} {we : WE} {tl : EnvD} {r : R} (hr : Ev we env r env1) (hz : ∀ P : D → EnvD → Prop, P (.lst xs) (.st (n + 1) :: tl) → fz r.hold env1 P) (h1 : env[0]? = some (.st (n + 1))) (h0 : xs ≠ []) (hl : xs.length < 1000000) (q : ∀ x ∈ xs, Q (.sh x) (.st n :: tl)) :
    wCall s_law_pick [true, false] [] (wCons (wVar 0) (wCons we wNil)) (fun _ _ => False) env Q := by
  refine Av.br (.varS h1) (.cons hr .nil) _ ?_
  refine hz _ ⟨by simp [ixs], rfl, n, xs, rfl, h0, hl, fun x hx => ?_⟩
  exact q x hx
theorem sDs_ne {xs : List Str} (h : xs ≠ []) : sDs xs ≠ [] := fun e => h (List.map_eq_nil_iff.mp e)
/-! ### _law_some_parts -/
end K28
namespace K28
open PySem PySem.Spec PyProof.Rows L2 DL
/-! ### shuffled, then cut -/
theorem cutD_to {xs : List D} {k : Nat} : DL.cutD xs none (some (k : Int)) = xs.take k := by
  unfold DL.cutD
  rw [HT.sIx_none, HT.sIx_nat]
  simp only [List.drop_zero, Nat.sub_zero]
  by_cases h : k ≤ xs.length
  · rw [Nat.min_eq_left h]
  · rw [Nat.min_eq_right (by omega), List.take_of_length_le (by omega), List.take_of_length_le (by omega)]
theorem sDs_perm {ys : List D} {xs : List Str} (h : ys.Perm (sDs xs)) : ∃ zs, ys = sDs zs ∧ zs.Perm xs := by
  refine ⟨ys.map fun d => match d with | .str x => x | _ => "", ?_, ?_⟩
  · unfold sDs
    rw [List.map_map]
    have e : ∀ d ∈ ys, (D.str ∘ fun d => match d with | .str x => x | _ => ("" : Str)) d = d := fun d hd => by
      obtain ⟨x, _, rfl⟩ := List.mem_map.mp (h.mem_iff.mp hd)
      rfl
    rw [List.map_congr_left e, List.map_id']
  · have e := h.map fun d => match d with | .str x => x | _ => ("" : Str)
    have e2 : (sDs xs).map (fun d => match d with | .str x => x | _ => ("" : Str)) = xs := by
      unfold sDs
      rw [List.map_map]
      exact List.map_id' xs
    rw [e2] at e
    exact e
theorem shuf_of {n : Nat} {xs : List Str} {env : EnvD} {Q : R → EnvD → Prop} {we : WE} {tl : EnvD} {r : R} (h1 : env = .st (n + xs.length) :: tl) (hr : Ev we env (.fr (.lst (sDs xs))) env) (hl : xs.length < 100000) (q : ∀ zs : List Str, zs.Perm xs → Q (.fr (.lst (sDs zs))) (.st n :: tl)) :
    wCall s_law_shuffled [true, false] [] (wCons (wVar 0) (wCons we wNil)) (fun _ _ => False) env Q := by
  subst h1
  refine Av.br (.varS rfl) (.fr hr .nil) _ ?_
  refine ⟨by simp [ixs], rfl, n, sDs xs, by simp [sDs, arSl], by simpa [sDs] using hl, fun ys hy => ?_⟩
  obtain ⟨zs, rfl, hz⟩ := sDs_perm hy
  exact q zs hz
theorem p_law_some_knots (args : List Sl) (Qd : R → EnvD → Prop) (Ed : XD → EnvD → Prop) (h : s_law_some_knots args Qd Ed) : b_law_some_knots (args ++ uns 0) (ends 2 Qd) := by
  obtain ⟨n, most, rfl, h0, h1, h⟩ := h
  refine shuf_of (r := .sh .non) (n := n + 1) (xs := ["k", "l", "m", "n", "spring", "mill"]) (tl := [.im (.int most)]) rfl (.lst (rs := (["k", "l", "m", "n", "spring", "mill"] : List Str).map fun x => .sh (.str x)) (.sh .cst (.sh .cst (.sh .cst (.sh .cst (.sh .cst (.sh .cst .nil)))))) fun _ q => q) (by decide) fun zs hz => ?_
  refine draw_of (we := wB fSub (wVar 1) (wC (.int 1))) (env := [.st (n + 1), .im (.int most)]) (n := n) (room := most - 1) (tl := [.im (.int most)]) rfl (.sub (.var rfl) .cst) (by omega) (by omega) fun i hi => ?_
  show Qd (.fr (.lst (DL.cutD (sDs zs) none (some (2 + (i : Int)))))) [.st n, .im (.int most)]
  rw [show (2 + (i : Int)) = ((2 + i : Nat) : Int) by omega, cutD_to, show (sDs zs).take (2 + i) = sDs (zs.take (2 + i)) from (List.map_take ..).symm]
  have l6 : zs.length = 6 := hz.length_eq
  have nd : zs.Nodup := hz.nodup_iff.mpr (by decide +kernel)
  refine h _ (by rw [List.length_take]; omega) (by rw [List.length_take]; omega) (nd.sublist (List.take_sublist _ _)) fun x hx => ?_
  have al : ∀ x ∈ (["k", "l", "m", "n", "spring", "mill"] : List Str), nameOk x = true := by decide +kernel
  exact al x (hz.mem_iff.mp (List.mem_of_mem_take hx))
/-! ### _law_added -/
end K28
namespace K28
open PySem PySem.Spec PyProof.Rows L2 DL
/-! ### the first wrong item -/
theorem first_some {xs : List D} {i : Nat} (h : ∀ j < i, wrongAt xs j = false) (hi : i < xs.length) (w : wrongAt xs i = true) : firstWrong xs = some i := by
  unfold firstWrong
  rw [List.find?_range_eq_some]
  exact ⟨w, List.mem_range.mpr hi, fun j hj => by rw [h j hj]; rfl⟩
theorem first_none {xs : List D} (h : ∀ j < xs.length, wrongAt xs j = false) : firstWrong xs = none := by
  unfold firstWrong
  rw [List.find?_eq_none]
  intro j hj
  rw [h j (List.mem_range.mp hj)]
  exact Bool.false_ne_true
theorem pipe_form {x : D} (h : isPipe x = true) : ∃ a b c e, x = .tup [.str a, .str b, c, e] ∧ a ≠ b ∧ isSum c = true ∧ isSum e = true := by
  unfold isPipe at h
  split at h
  · rename_i a b c e
    simp only [Bool.and_eq_true] at h
    obtain ⟨⟨⟨⟨ha, hb⟩, hab⟩, hc⟩, he⟩ := h
    obtain ⟨s, rfl⟩ : ∃ s, a = .str s := by cases a <;> first | exact ⟨_, rfl⟩ | cases ha
    obtain ⟨t, rfl⟩ : ∃ t, b = .str t := by cases b <;> first | exact ⟨_, rfl⟩ | cases hb
    exact ⟨s, t, c, e, rfl, by simpa using hab, hc, he⟩
  · cases h
theorem endsL_snoc {xs : List D} {i : Nat} (h : i < xs.length) : endsL (xs.take (i + 1)) = endsL (xs.take i) ++ endsD xs[i] := by
  unfold endsL
  rw [List.take_succ_eq_append_getElem h, List.flatMap_append, List.flatMap_singleton]
theorem inV_str {x : Str} (ks : List Str) : inV (.str x) (ks.map V.str) = decide (x ∈ ks) := by
  unfold inV
  induction ks with
  | nil => rfl
  | cons k ks ih =>
    rw [List.map_cons, List.any_cons, ih]
    have e : eqV (V.str k) (V.str x) = decide (k = x) := by simp only [eqV]; first | rfl | (rw [Bool.eq_iff_iff]; simp)
    rw [e]
    by_cases h : k = x
    · simp [h]
    · have h2 : ¬ x = k := fun z => h z.symm
      simp [h, h2]
theorem plain_sDs (ks : List Str) : plainVs (sDs ks) = some (ks.map V.str) := by
  induction ks with
  | nil => rfl
  | cons k ks ih =>
    show (match plainV (.str k), plainVs (sDs ks) with | some v, some vs => some (v :: vs) | _, _ => none) = _
    rw [ih]
    rfl
theorem wrong_at {xs : List D} {i : Nat} (hi : i < xs.length) : wrongAt xs i = (decide ((i : Int) = 12) || !isPipe xs[i] || decide (6 < (ddp (endsL (xs.take (i + 1)))).length)) := by
  unfold wrongAt
  rw [List.getD_eq_getElem?_getD, List.getElem?_eq_getElem hi]
  have e : (i == 12) = decide ((i : Int) = 12) := by
    rw [Bool.eq_iff_iff, beq_iff_eq, decide_eq_true_iff]
    omega
  rw [e]
  rfl
end K28
namespace K28
open PySem PySem.Spec PyProof.Rows L2 DL
/-! ### Loop -/
def addAll (ks ys : List Str) : List Str := ys.foldl addK ks
theorem addAll_mem {x : Str} : ∀ {ys ks : List Str}, x ∈ addAll ks ys ↔ x ∈ ks ∨ x ∈ ys
  | [], ks => ⟨.inl, fun z => z.elim id fun w => (by cases w)⟩
  | y :: ys, ks => by
    show x ∈ addAll (addK ks y) ys ↔ _
    rw [addAll_mem, addK_mem, List.mem_cons, or_assoc]
theorem addAll_nodup : ∀ {ys ks : List Str}, ks.Nodup → (addAll ks ys).Nodup
  | [], _, h => h
  | y :: ys, ks, h => (addAll_nodup (ys := ys) (addK_nodup h) : (addAll (addK ks y) ys).Nodup)
theorem addAll_app {ks ys zs : List Str} : addAll ks (ys ++ zs) = addAll (addAll ks ys) zs := by
  unfold addAll
  rw [List.foldl_append]
/-- the innermost clause -/
theorem nm_in {B : List Str} {s0 s1 s2 s3 s4 s5 : Sl} {Q : D → EnvD → Prop} (hB : B.length ≤ 40) : ∀ (ys ks : List Str), ks.Nodup → (∀ x ∈ ks, x ∈ B) → (∀ y ∈ ys, y ∈ B) → Q (.dct (bK (addAll ks ys))) [s0, s1, s2, s3, s4, s5, .un] →
    nbGo (gN 6) (wYes) (wbLast (wVar 6) (wC (.bl true))) [6] (ys.map D.str) (.dct (bK ks)) [s0, s1, s2, s3, s4, s5, .un] Q
  | [], ks, _, _, _, q => q
  | y :: ys, ks, nd, hk, hy, q => by
    refine ⟨(by decide : 6 < 7), ?_⟩
    have hl := nodup_le nd hk
    refine ⟨by rw [len_bK]; exact small_line (by omega), ?_⟩
    rw [putD_bK]
    refine nm_in hB ys (addK ks y) (addK_nodup nd) (fun x hx => ?_) (fun z hz => hy z (List.mem_cons_of_mem _ hz)) q
    rcases addK_mem.mp hx with h | rfl
    · exact hk x h
    · exact hy x List.mem_cons_self
/-- the sums of one pipe -/
theorem nm_mid {B : List Str} {s0 s1 s2 s3 s4 : Sl} {Q : D → EnvD → Prop} (hB : B.length ≤ 40) : ∀ (cs : List D) (ks : List Str), (∀ c ∈ cs, ∃ ps, c = mkSum ps ∧ ∀ p ∈ ps, p.1 ∈ B) → ks.Nodup → (∀ x ∈ ks, x ∈ B) → Q (.dct (bK (addAll ks (cs.flatMap sumNames)))) [s0, s1, s2, s3, s4, .un, .un] →
    nbGo (gN 5) (wYes) (wbMid (wIt (wFld ["Sum"] "own_parts" (wVar 5))) (gN 6) (wYes) (wbLast (wVar 6) (wC (.bl true))) [6]) [5, 6] cs (.dct (bK ks)) [s0, s1, s2, s3, s4, .un, .un] Q
  | [], ks, _, _, _, q => q
  | c :: cs, ks, hc, nd, hk, q => by
    obtain ⟨ps, rfl, hp⟩ := hc c List.mem_cons_self
    refine ⟨(by decide : 5 < 7), ?_⟩
    refine (Iv.itS (d := .dct (dK ps)) (.fld (cs := ["Sum"]) (.var rfl) rfl (List.mem_singleton.mpr rfl) rfl) (congrArg some (keysD_dK ps)) : Iv (wIt (wFld ["Sum"] "own_parts" (wVar 5))) [s0, s1, s2, s3, s4, .im (mkSum ps), .un] ((ps.map (·.1)).map D.str) [s0, s1, s2, s3, s4, .im (mkSum ps), .un]) _ ?_
    refine ⟨fun v hv => by rw [List.mem_singleton.mp hv]; exact (by decide : 6 < 7), ?_⟩
    refine nm_in hB (ps.map (·.1)) ks nd hk (fun y hy => ?_) ?_
    · obtain ⟨p, hp2, rfl⟩ := List.mem_map.mp hy
      exact hp p hp2
    · have en : sumNames (mkSum ps) = ps.map (·.1) := by
        show (dK ps).filterMap _ = _
        unfold dK
        rw [List.filterMap_map]
        exact List.filterMap_eq_map' ▸ rfl
      rw [List.flatMap_cons, addAll_app, en] at q
      refine nm_mid hB cs _ (fun z hz => hc z (List.mem_cons_of_mem _ hz)) (addAll_nodup nd) (fun x hx => ?_) q
      rcases addAll_mem.mp hx with h | h
      · exact hk x h
      · obtain ⟨p, hp2, rfl⟩ := List.mem_map.mp h
        exact hp p hp2
theorem names_eq {x : D} {a b c e : D} (h : x = .tup [a, b, c, e]) : namesD x = [c, e].flatMap sumNames := by
  subst h
  simp [namesD]
/-- all pipes -/
theorem nm_out {B : List Str} {s0 s1 s2 s4 : Sl} {Q : D → EnvD → Prop} (hB : B.length ≤ 40) : ∀ (xs : List D) (ks : List Str), (∀ x ∈ xs, ∃ a b c e ps qs, x = .tup [a, b, c, e] ∧ c = mkSum ps ∧ e = mkSum qs ∧ (∀ p ∈ ps, p.1 ∈ B) ∧ ∀ p ∈ qs, p.1 ∈ B) → ks.Nodup → (∀ x ∈ ks, x ∈ B) →
    Q (.dct (bK (addAll ks (namesL xs)))) [s0, s1, s2, .un, s4, .un, .un] →
    nbGo (gN 3) (wYes) (wbMid (wIt (wSl (wVar 3) (wSome (wC (.int 2))) (wNo))) (gN 5) (wYes) (wbMid (wIt (wFld ["Sum"] "own_parts" (wVar 5))) (gN 6) (wYes) (wbLast (wVar 6) (wC (.bl true))) [6]) [5, 6]) [3, 5, 6] xs (.dct (bK ks)) [s0, s1, s2, .un, s4, .un, .un] Q
  | [], ks, _, _, _, q => q
  | x :: xs, ks, hx, nd, hk, q => by
    obtain ⟨a, b, c, e, ps, qs, rfl, rfl, rfl, hp, hq⟩ := hx x List.mem_cons_self
    refine ⟨(by decide : 3 < 7), ?_⟩
    refine ⟨fun v hv => ?_, ?_⟩
    · have : v = 5 ∨ v = 6 := by simpa using hv
      rcases this with rfl | rfl
      · exact (by decide : 5 < 7)
      · exact (by decide : 6 < 7)
    refine nm_mid hB [mkSum ps, mkSum qs] ks (fun c hc => ?_) nd hk ?_
    · have : c = mkSum ps ∨ c = mkSum qs := by simpa using hc
      rcases this with rfl | rfl
      · exact ⟨ps, rfl, hp⟩
      · exact ⟨qs, rfl, hq⟩
    · have en : namesL (.tup [a, b, mkSum ps, mkSum qs] :: xs) = [mkSum ps, mkSum qs].flatMap sumNames ++ namesL xs := by
        show namesD _ ++ namesL xs = _
        rw [names_eq rfl]
      rw [en, addAll_app] at q
      refine nm_out hB xs _ (fun z hz => hx z (List.mem_cons_of_mem _ hz)) (addAll_nodup nd) (fun x hx => ?_) q
      rcases addAll_mem.mp hx with h | h
      · exact hk x h
      · obtain ⟨c, hc, hxc⟩ := List.mem_flatMap.mp h
        have sn : ∀ ps : List (Str × Int), sumNames (mkSum ps) = ps.map (·.1) := fun ps => by
          show (dK ps).filterMap _ = _
          unfold dK
          rw [List.filterMap_map]
          exact List.filterMap_eq_map' ▸ rfl
        have : c = mkSum ps ∨ c = mkSum qs := by simpa using hc
        rcases this with rfl | rfl
        · rw [sn] at hxc
          obtain ⟨p, hp2, rfl⟩ := List.mem_map.mp hxc
          exact hp p hp2
        · rw [sn] at hxc
          obtain ⟨p, hp2, rfl⟩ := List.mem_map.mp hxc
          exact hq p hp2
end K28
namespace K28
open PySem PySem.Spec PyProof.Rows L2 DL
theorem ends_call {we : WE} {r : R} {d : D} {xs : List D} {env env1 env2 : EnvD} {Q : R → EnvD → Prop} {Ed : XD → EnvD → Prop} (h : Ev we env r env1) (hf : ∀ P : D → EnvD → Prop, P d env2 → fz r.hold env1 P) (hd : d = .lst xs ∨ d = .tup xs) (he : ∀ x ∈ xs, HasEnds x) (hl : xs.length ≤ 30)
    (q : ∀ ys, Just (endsL xs) ys → Q (.sh (.tup (ys.map .str))) env2) : wCall s_ends_of [false] [] (wCons we (wNil)) Ed env Q := by
  refine Av.cons h .nil _ ?_
  refine hf _ ⟨List.nodup_nil, rfl, ?_⟩
  exact ⟨d, xs, rfl, hd, he, hl, fun ys hy => q ys hy⟩
theorem len_int {m : Nat} {n : Int} : ((6 : Int) < n) ↔ (6 : Int) < n := Iff.rfl
theorem dcN_of {wi : WI} {wg : WG} {wt : WT} {wb : WB} {vs : List Nat} {env env1 : EnvD} {ds : List D} {Q : R → EnvD → Prop} (h : Iv wi env ds env1) (ok : okW env1 vs) (q : nbGo wg wt wb vs ds (.dct []) (wipeE env1 vs) fun acc env2 => env2.length = env1.length ∧ Q (.fr acc) (unw env1 env2 vs)) : wDcN wi wg wt wb vs env Q := h _ ⟨ok, q⟩
theorem put_2 {f g : Str} {x y : D} (h : f ≠ g) : putFD g y [(f, x)] = [(f, x), (g, y)] := by
  unfold putFD
  rw [if_neg h]
  rfl
theorem put_3 {f g k : Str} {x y z : D} (h : f ≠ k) (h2 : g ≠ k) : putFD k z [(f, x), (g, y)] = [(f, x), (g, y), (k, z)] := by
  unfold putFD
  rw [if_neg h, put_2 h2]
theorem if_w {wt : WT} {w1 w2 : WS} {env : EnvD} {De : DEnds} (h : wt env fun b env1 => if b = true then w1 env1 De else w2 env1 De) : sIf wt w1 w2 env De := h
theorem or_F {ta tb : WT} {env env1 : EnvD} {Q : Bool → EnvD → Prop} (h : Tv ta env false env1) (q : tb env1 Q) : wOrT ta tb env Q := h _ q
theorem ends_test {d : D} {xs : List D} {i : Nat} {s0 u3 u4 u5 u6 : Sl} {Q : Bool → EnvD → Prop} (hd : d = .lst xs ∨ d = .tup xs) (hi : i < xs.length) (hl : xs.length ≤ 30) (he : ∀ x ∈ xs.take (i + 1), HasEnds x)
    (q : Q (decide (6 < (ddp (endsL (xs.take (i + 1)))).length)) [s0, .im d, .im (.int i), u3, u4, u5, u6]) :
    wBl (wB fGt (wCB fLen (wCons (wCall s_ends_of [false] [] (wCons (wSl (wVar 1) (wNo) (wSome (wB fAdd (wVar 2) (wC (.int 1))))) (wNil)) (fun _ _ => False)) (wNil))) (wC (.int 6))) [s0, .im d, .im (.int i), u3, u4, u5, u6] Q := by
  have cut : DL.cutD xs none (some ((i : Int) + 1)) = xs.take (i + 1) := by
    have z : ((i : Int) + 1) = ((i + 1 : Nat) : Int) := by omega
    rw [z]
    unfold DL.cutD
    rw [HT.sIx_none, HT.sIx_nat]
    simp only [List.drop_zero, Nat.sub_zero]
    rw [Nat.min_eq_left (by omega)]
  have key : ∀ (r : R) (d2 : D), (d2 = .lst (xs.take (i + 1)) ∨ d2 = .tup (xs.take (i + 1))) → Ev (wSl (wVar 1) (wNo) (wSome (wB fAdd (wVar 2) (wC (.int 1))))) [s0, .im d, .im (.int i), u3, u4, u5, u6] r [s0, .im d, .im (.int i), u3, u4, u5, u6] → (∀ P : D → EnvD → Prop, P d2 [s0, .im d, .im (.int i), u3, u4, u5, u6] → fz r.hold [s0, .im d, .im (.int i), u3, u4, u5, u6] P) →
      wBl (wB fGt (wCB fLen (wCons (wCall s_ends_of [false] [] (wCons (wSl (wVar 1) (wNo) (wSome (wB fAdd (wVar 2) (wC (.int 1))))) (wNil)) (fun _ _ => False)) (wNil))) (wC (.int 6))) [s0, .im d, .im (.int i), u3, u4, u5, u6] Q := fun r d2 h2 ev hf => by
    refine ends_call (Ed := fun _ _ => False) ev hf h2 he (by rw [List.length_take]; omega) fun ys hy => ?_
    have l := ddp_len hy.2.1 hy.2.2
    show Q (decide ((6 : Int) < (((ys.map D.str).length : Nat) : Int))) [s0, .im d, .im (.int i), u3, u4, u5, u6]
    have e : decide ((6 : Int) < (((ys.map D.str).length : Nat) : Int)) = decide (6 < (ddp (endsL (xs.take (i + 1)))).length) := by
      rw [← l, List.length_map, Bool.eq_iff_iff, decide_eq_true_iff, decide_eq_true_iff]
      omega
    rw [e]
    exact q
  rcases hd with rfl | rfl
  · refine key (.fr (.lst (xs.take (i + 1)))) (.lst (xs.take (i + 1))) (.inl rfl) (fun Q q => ?_) fun _ q => q
    show Q (.fr (.lst (DL.cutD xs none (some ((i : Int) + 1))))) _
    rw [cut]
    exact q
  · refine key (.sh (.tup (xs.take (i + 1)))) (.tup (xs.take (i + 1))) (.inr rfl) (fun Q q => ?_) fun _ q => q
    show Q (.sh (.tup (DL.cutD xs none (some ((i : Int) + 1))))) _
    rw [cut]
    exact q
theorem HasEnds.of_pipe {x : D} (h : isPipe x = true) : HasEnds x := by
  obtain ⟨a, b, c, e, rfl, _⟩ := pipe_form h
  exact ⟨a, b, _, rfl⟩
theorem pipes_before {xs : List D} {i : Nat} (hw : ∀ j < i, wrongAt xs j = false) (hi : i ≤ xs.length) : ∀ x ∈ xs.take i, isPipe x = true := fun x hx => by
  obtain ⟨j, hj, rfl⟩ := List.getElem_of_mem hx
  rw [List.length_take] at hj
  rw [List.getElem_take]
  have lt : j < xs.length := by omega
  have w := hw j (by omega)
  rw [wrong_at lt, Bool.or_eq_false_iff, Bool.or_eq_false_iff] at w
  simpa using w.1.2
theorem li_go {d : D} {xs : List D} {Ed : XD → EnvD → Prop} {De : DEnds} (hd : d = .lst xs ∨ d = .tup xs) (hl : xs.length ≤ 30) (hok : ∀ x ∈ xs, OkItem x)
    (hE : ∀ n, firstWrong xs = some n → ∀ l, Ed ⟨"BadLoop", some ("part", .int n)⟩ (.pm (.ins "Loop" []) :: .im d :: l))
    (hT : firstWrong xs = none → (∀ x ∈ xs, isPipe x = true) → ∀ u2 u3, (u3 = .un ∨ ∃ z, u3 = .im z) → De.nx [.pm (.ins "Loop" []), .im d, u2, u3, .un, .un, .un]) :
    ∀ (k i : Nat) (u2 u3 : Sl), i + k = xs.length → (∀ j < i, wrongAt xs j = false) → (u3 = .un ∨ ∃ z, u3 = .im z) →
    forGo (gT 2 (gsCons (gN 2) (gsCons (gN 3) (gsNil)))) (sIf (wOrT (wBl (wEq own0 0 (wVar 2) (wC (.int 12)))) (wOrT (wNotT (wBl (wCall s_is_loop_pipe [false] [] (wCons (wVar 3) (wNil)) (fun _ _ => False)))) (wBl (wB fGt (wCB fLen (wCons (wCall s_ends_of [false] [] (wCons (wSl (wVar 1) (wNo) (wSome (wB fAdd (wVar 2) (wC (.int 1))))) (wNil)) (fun _ _ => False)) (wNil))) (wC (.int 6)))))) (sRaise "BadLoop" "part" Ed (wCons (wVar 2) (wNil))) (sNext))
      (numbered i (xs.drop i)) [.pm (.ins "Loop" []), .im d, u2, u3, .un, .un, .un] De
  | 0, i, u2, u3, hi, hw, h3 => by
    rw [List.drop_of_length_le (by omega)]
    have al := pipes_before hw (by omega)
    rw [List.take_of_length_le (by omega)] at al
    exact hT (first_none fun j hj => hw j (by omega)) al u2 u3 h3
  | k + 1, i, u2, u3, hi, hw, _ => by
    have lt : i < xs.length := by omega
    rw [List.drop_eq_getElem_cons lt]
    refine ⟨rfl, (by decide : 2 < 7), (by decide : 3 < 7), rfl, ?_⟩
    have ok := hok xs[i] (List.getElem_mem lt)
    have wa := wrong_at lt
    have t1 := (Tv.bl (.eqI (own := own0) (n := 0) (.var rfl) .cst) : Tv (wBl (wEq own0 0 (wVar 2) (wC (.int 12)))) [.pm (.ins "Loop" []), .im d, .im (.int i), .im xs[i], .un, .un, .un] (decide ((i : Int) = 12)) [.pm (.ins "Loop" []), .im d, .im (.int i), .im xs[i], .un, .un, .un])
    have t2 := (Tv.not (.bl (.call1 (.var rfl) (fun Q E q => ⟨xs[i], rfl, ok.1, fun ds e y hy => (ok.2 ds e y hy).1, q⟩) fun Q q => q)) : Tv (wNotT (wBl (wCall s_is_loop_pipe [false] [] (wCons (wVar 3) (wNil)) (fun _ _ => False)))) [.pm (.ins "Loop" []), .im d, .im (.int i), .im xs[i], .un, .un, .un] (!isPipe xs[i]) [.pm (.ins "Loop" []), .im d, .im (.int i), .im xs[i], .un, .un, .un])
    cases h1 : decide ((i : Int) = 12) with
    | true =>
      rw [h1] at t1 wa
      rw [Bool.true_or, Bool.true_or] at wa
      refine if_w (t1.orT _ ?_)
      exact hE i (first_some hw lt wa) _
    | false =>
      rw [h1] at t1 wa
      cases h2 : isPipe xs[i] with
      | false =>
        rw [h2] at t2 wa
        refine if_w (or_F t1 (t2.orT _ ?_))
        exact hE i (first_some hw lt wa) _
      | true =>
        rw [h2] at t2 wa
        refine if_w (or_F t1 (or_F t2 (ends_test hd lt hl (fun x hx => ?_) ?_)))
        · rw [List.take_succ_eq_append_getElem lt] at hx
          rcases List.mem_append.mp hx with hx | hx
          · exact .of_pipe (pipes_before hw (by omega) x hx)
          · rw [List.mem_singleton.mp hx]
            exact .of_pipe h2
        · cases h3 : decide (6 < (ddp (endsL (xs.take (i + 1)))).length) with
          | true =>
            rw [h3] at wa
            exact hE i (first_some hw lt wa) _
          | false =>
            rw [h3] at wa
            refine li_go hd hl hok hE hT k (i + 1) _ _ (by omega) (fun j hj => ?_) (.inr ⟨_, rfl⟩)
            by_cases z : j < i
            · exact hw j z
            · have : j = i := by omega
              rw [this]; exact wa
theorem p_Loop_init (args : List Sl) (Qd : R → EnvD → Prop) (Ed : XD → EnvD → Prop) (h : s_Loop_init args Qd Ed) : b_Loop_init Ed (args ++ uns 5) (ends 2 Qd) := by
  obtain ⟨d, rfl, hok, h⟩ := h
  have tl : Tv (wNotT (wBl (wCall s_is_list [false] [] (wCons (wVar 1) (wNil)) (fun _ _ => False)))) [.pm (.ins "Loop" []), .im d, .un, .un, .un, .un, .un] (!isList d) [.pm (.ins "Loop" []), .im d, .un, .un, .un, .un, .un] :=
    .not (.bl (.call1 (.var rfl) (fun Q E q => ⟨d, rfl, hok, q⟩) fun Q q => q))
  rcases h with ⟨hl, hE⟩ | ⟨xs, hd, hx, hl, h⟩
  · rw [hl] at tl
    unfold b_Loop_init sSeq
    refine if_w (tl _ ?_)
    exact hE _
  · have il : isList d = true := by rcases hd with rfl | rfl <;> rfl
    rw [il] at tl
    refine seq_if_F tl ?_
    have en : Iv (wEnum (wCons (wVar 1) (wNil))) [.pm (.ins "Loop" []), .im d, .un, .un, .un, .un, .un] (numbered 0 xs) [.pm (.ins "Loop" []), .im d, .un, .un, .un, .un, .un] := fun Q q => by
      rcases hd with rfl | rfl <;> exact q
    refine seq_for en ?_
    refine li_go hd hl hx (fun n hn l => ?_) (fun hn al u2 u3 h3 => ?_) xs.length 0 _ _ (by omega) (fun j hj => (by omega)) (.inl rfl)
    · rcases h with ⟨m, hm, hE⟩ | ⟨hm, _⟩
      · rw [hn] at hm
        cases hm
        exact hE l
      · rw [hn] at hm; cases hm
    · rcases h with ⟨m, hm, _⟩ | ⟨_, hB, h⟩
      · rw [hn] at hm; cases hm
      have tu : Ev (wCB fTuple (wCons (wVar 1) (wNil))) [.pm (.ins "Loop" []), .im d, u2, u3, .un, .un, .un] (.sh (.tup xs)) [.pm (.ins "Loop" []), .im d, u2, u3, .un, .un, .un] := by
        rcases hd with rfl | rfl
        · exact .tuL (.var rfl) rfl
        · exact .tuT (.var rfl) rfl
      refine seq_fld (c := "Loop") (fs := []) tu (fun _ q => q) rfl (List.mem_singleton.mpr rfl) (by decide) ?_
      have he : ∀ x ∈ xs, HasEnds x := fun x hx => .of_pipe (al x hx)
      refine ends_call (Ed := fun _ _ => False) (xs := xs) (d := d) (env1 := [.pm (.ins "Loop" [("loop_pipes", .tup xs)]), .im d, u2, u3, .un, .un, .un]) (.var rfl) (fun _ q => q) hd he hl fun ks hk => ?_
      refine ⟨List.mem_singleton.mpr rfl, (by decide : 1 < 1000), ?_⟩
      rw [put_2 (by decide +kernel)]
      have items : itemsD d = some xs := by rcases hd with rfl | rfl <;> rfl
      have okw : okW [.pm (.ins "Loop" [("loop_pipes", .tup xs), ("loop_knots", .tup (ks.map D.str))]), .im d, u2, u3, .un, .un, .un] [3, 5, 6] := by
        refine ⟨by decide, fun v hv => ?_⟩
        have : v = 3 ∨ v = 5 ∨ v = 6 := by simpa using hv
        rcases this with rfl | rfl | rfl
        · refine ⟨(by decide : 3 < 7), ?_⟩
          rcases h3 with rfl | ⟨z, rfl⟩
          · exact .inl rfl
          · exact .inr ⟨z, rfl⟩
        · exact ⟨(by decide : 5 < 7), .inl rfl⟩
        · exact ⟨(by decide : 6 < 7), .inl rfl⟩
      dsimp only
      refine seq_set_w (De := ends 2 Qd) (env := [.pm (.ins "Loop" [("loop_pipes", .tup xs), ("loop_knots", .tup (ks.map D.str))]), .im d, u2, u3, .un, .un, .un]) ?_
      refine dcN_of (ds := xs) (env1 := [.pm (.ins "Loop" [("loop_pipes", .tup xs), ("loop_knots", .tup (ks.map D.str))]), .im d, u2, u3, .un, .un, .un]) (.itS (d := d) (.var rfl) items) okw ?_
      refine nm_out (B := ddp (namesL xs)) hB xs [] (fun x hx2 => ?_) List.nodup_nil (fun x h => (by cases h)) ?_
      · obtain ⟨a, b, c, e, ex, _, hc, he2⟩ := pipe_form (al x hx2)
        have o := (hx x hx2).2 _ ex
        obtain ⟨ps, rfl, _⟩ := (o c (by simp)).2 hc
        obtain ⟨qs, rfl, _⟩ := (o e (by simp)).2 he2
        have mem : ∀ s, s ∈ namesD x → s ∈ ddp (namesL xs) := fun s hs => mem_ddp.mpr (List.mem_flatMap.mpr ⟨x, hx2, hs⟩)
        have sn : ∀ ps : List (Str × Int), sumNames (mkSum ps) = ps.map (·.1) := fun ps => by
          show (dK ps).filterMap _ = _
          unfold dK
          rw [List.filterMap_map]
          exact List.filterMap_eq_map' ▸ rfl
        have nx : namesD x = ps.map (·.1) ++ qs.map (·.1) := by
          rw [ex]
          show sumNames (mkSum ps) ++ sumNames (mkSum qs) = _
          rw [sn, sn]
        exact ⟨_, _, _, _, ps, qs, ex, rfl, rfl, fun p hp => mem _ (by rw [nx]; exact List.mem_append_left _ (List.mem_map_of_mem hp)), fun p hp => mem _ (by rw [nx]; exact List.mem_append_right _ (List.mem_map_of_mem hp))⟩
      · have uw := unw_wipe okw
        rw [show wipeE [.pm (.ins "Loop" [("loop_pipes", .tup xs), ("loop_knots", .tup (ks.map D.str))]), .im d, u2, u3, .un, .un, .un] [3, 5, 6] = [.pm (.ins "Loop" [("loop_pipes", .tup xs), ("loop_knots", .tup (ks.map D.str))]), .im d, u2, Sl.un, .un, .un, .un] from rfl] at uw
        refine ⟨rfl, ?_⟩
        rw [uw]
        refine ⟨(by decide : 4 < 7), ?_⟩
        have nd := addAll_nodup (ks := []) (ys := namesL xs) List.nodup_nil
        have mm : ∀ x, x ∈ addAll [] (namesL xs) ↔ x ∈ namesL xs := fun x => addAll_mem.trans ⟨fun z => z.elim (fun w => (by cases w)) id, .inr⟩
        have ln := ddp_len nd mm
        refine cb_sorted (env := [.pm (.ins "Loop" [("loop_pipes", .tup xs), ("loop_knots", .tup (ks.map D.str))]), .im d, u2, u3, .ow (.dct (bK (addAll [] (namesL xs)))), .un, .un]) (.varO rfl) rfl (keys_bK _) (by omega) fun ns hp hs => ?_
        refine ⟨List.mem_singleton.mpr rfl, (by decide : 2 < 1000), ?_⟩
        rw [put_3 (by decide +kernel) (by decide +kernel)]
        exact h ks ns hk (just_of nd mm hp hs)
end K28
namespace K28
open PySem PySem.Spec PyProof.Rows L2 DL
/-! ### own classes compared -/
/-! ### _law_plain, _law_is -/
theorem i_int_str_ok {d : D} (h : okD d = true) : i_int_str d = some (isNum d || isBl d || isStr d) := by
  cases d with
  | ins c fs => rcases okD_ins h with rfl | rfl <;> rfl
  | exc _ _ => cases h
  | _ => rfl
theorem plD_ok {n : Nat} {d : D} (h : plD n d = true) : okD d = true := by
  cases d <;> cases n <;> first | rfl | (exact h) | (cases h; done)
theorem plain_list {n : Nat} {xs : List D} {d : D} {Qd : R → EnvD → Prop} (hi : itemsD d = some xs) (hl : isList d = true) (hok : okD d = true) (hlen : xs.length < 1000) (h : ∀ x ∈ xs, plD n x = true) (q : Qd (.sh (.bl true)) [.im d]) : b_law_plain (n + 1) ([.im d] ++ uns 1) (ends 1 Qd) := by
  have tl : Tv (wBl (wIsi i_list_tuple (wVar 0))) [.im d, .un] (isList d) [.im d, .un] := .bl (.isi (.var rfl) rfl (i_list_tuple_ok hok))
  rw [hl] at tl
  have lc := Ev.lc1 (wi := wIt (wVar 0)) (env := [.im d, .un]) (env1 := [.im d, .un]) (ds := xs) (wt := wNotT (wBl (wCall (sP (n + 1)) [false] [] (wCons (wVar 1) (wNil)) (fun _ _ => False)))) (we := wC (.int 1)) (k := 1) (c := fun _ => false) (f := fun x => x) (.itS (.var rfl) hi) rfl (small_line (by omega))
    (fun x hx => (.not (b := true) (.bl (.call1 (sem := sP (n + 1)) (.var rfl) (fun Q E q => ⟨x, rfl, h x hx, q⟩) fun Q q => q)) : Tv (wNotT (wBl (wCall (sP (n + 1)) [false] [] (wCons (wVar 1) (wNil)) (fun _ _ => False)))) [.im d, .im x] (!true) [.im d, .im x])) (fun x hx z => (by cases z))
  have e : (xs.filter fun _ => false).map (fun x => x) = [] := by
    rw [List.filter_eq_nil_iff.mpr (fun _ _ => Bool.false_ne_true)]
    rfl
  rw [e] at lc
  unfold b_law_plain
  refine seq_if_T (env := [.im d, .un]) tl ?_
  refine ret_sh (d := .bl true) (env1 := [.im d, .un]) (.eqX (ng := false) (b := true) (n := 1) lc (.lst .nil fun _ q => q) rfl rfl (fun z => (nomatch z)) (fun z => (nomatch z)) (fun v w hv hw => by cases hv) (.inr (.inl ⟨[], [], rfl, rfl, .nil⟩))) ?_
  exact q
theorem p_law_plain (n : Nat) (args : List Sl) (Qd : R → EnvD → Prop) (Ed : XD → EnvD → Prop) (h : s_law_plain n args Qd Ed) : b_law_plain n (args ++ uns 1) (ends 1 Qd) := by
  obtain ⟨d, rfl, hp, h⟩ := h
  have ok := plD_ok hp
  have flat : isList d = false → isDct d = false → (d = .non ∨ (isNum d || isBl d || isStr d) = true) → b_law_plain n ([.im d] ++ uns 1) (ends 1 Qd) := fun h1 h2 h3 => by
    have tl : Tv (wBl (wIsi i_list_tuple (wVar 0))) [.im d, .un] (isList d) [.im d, .un] := .bl (.isi (.var rfl) rfl (i_list_tuple_ok ok))
    have td : Tv (wBl (wIsi i_dict (wVar 0))) [.im d, .un] (isDct d) [.im d, .un] := .bl (.isi (.var rfl) rfl (i_dict_ok ok))
    rw [h1] at tl
    rw [h2] at td
    unfold b_law_plain
    refine seq_if_F (env := [.im d, .un]) tl (seq_if_F (env := [.im d, .un]) td ?_)
    rcases h3 with rfl | h3
    · exact h
    · have e := i_int_str_ok ok
      rw [h3] at e
      cases d with
      | non => exact h
      | bl b => exact h
      | int i => exact h
      | str x => exact h
      | _ => cases h3
  cases d with
  | non => exact flat rfl rfl (.inl rfl)
  | bl b => exact flat rfl rfl (.inr rfl)
  | int i => exact flat rfl rfl (.inr rfl)
  | str x => exact flat rfl rfl (.inr rfl)
  | lst xs =>
    cases n with
    | zero => cases hp
    | succ n =>
      have z : (decide (xs.length < 1000) && xs.all (plD n)) = true := hp
      rw [Bool.and_eq_true, decide_eq_true_iff] at z
      exact plain_list rfl rfl ok z.1 (List.all_eq_true.mp z.2) h
  | tup xs =>
    cases n with
    | zero => cases hp
    | succ n =>
      have z : (decide (xs.length < 1000) && xs.all (plD n)) = true := hp
      rw [Bool.and_eq_true, decide_eq_true_iff] at z
      exact plain_list rfl rfl ok z.1 (List.all_eq_true.mp z.2) h
  | dct _ => cases n <;> cases hp
  | ins _ _ => cases n <;> cases hp
  | exc _ _ => cases n <;> cases hp
theorem p_law_is (args : List Sl) (Qd : R → EnvD → Prop) (Ed : XD → EnvD → Prop) (h : s_law_is args Qd Ed) : b_law_is (args ++ uns 0) (ends 2 Qd) := by
  obtain ⟨d, rfl, hp, he, hs, ht, h⟩ := h
  have ns : isIns d = true → True := fun _ => trivial
  have c : Ev (wCall (sP 3) [false] [] (wCons (wVar 0) (wNil)) (fun _ _ => False)) [.im d, .im d] (.sh (.bl true)) [.im d, .im d] := .call1 (sem := sP 3) (.var rfl) (fun Q E q => ⟨d, rfl, hp, q⟩) fun Q q => q
  have e1 : Ev (wEq own0 3 (wVar 0) (wVar 1)) [.im d, .im d] (.sh (.bl true)) [.im d, .im d] := .eqX (ng := false) (.var rfl) (.var rfl) rfl rfl (fun _ => ⟨rfl, rfl⟩) (fun _ => rfl) ht he
  have e2 : Ev (wEq own0 3 (wVar 1) (wVar 0)) [.im d, .im d] (.sh (.bl true)) [.im d, .im d] := .eqX (ng := false) (.var rfl) (.var rfl) rfl rfl (fun _ => ⟨rfl, rfl⟩) (fun _ => rfl) ht he
  have r : ∀ k, k < 2 → Ev (wCB fRepr (wCons (wVar k) (wNil))) [.im d, .im d] (.sh (.str (pyD d).shown)) [.im d, .im d] := fun k hk => by
    refine .cb (rs := [.sh d]) (ds := [d]) (.sh (.var ?_) .nil) rfl fun Q q => ⟨d, rfl, hs, q⟩
    match k, hk with
    | 0, _ => rfl
    | 1, _ => rfl
  have e3 : Ev (wEq own0 0 (wCB fRepr (wCons (wVar 0) (wNil))) (wCB fRepr (wCons (wVar 1) (wNil)))) [.im d, .im d] (.sh (.bl true)) [.im d, .im d] :=
    .eqX (ng := false) (b := true) (r 0 (by decide)) (r 1 (by decide)) rfl rfl (fun _ => ⟨rfl, rfl⟩) (fun _ => rfl) (fun v w hv hw => by cases hv; cases hw; rfl) ⟨_, _, rfl, rfl, (eqV_self rfl).symm⟩
  exact ret_sh (c.andT (e1.andT (e2.andT e3))) h
end K28
namespace DL
open PySem PySem.Spec PyProof.Rows L2
/-! ### plain things are equal to themselves, and shown -/
theorem EqA.self {E : D → D → Bool → Prop} : ∀ {xs : List D}, (∀ x ∈ xs, E x x true) → EqA E xs xs true
  | [], _ => .nil
  | x :: xs, h => .hit (h x List.mem_cons_self) (EqA.self fun y hy => h y (List.mem_cons_of_mem _ hy))
theorem EqA.any {E : D → D → Bool → Prop} : ∀ {xs ys : List D}, (∀ x ∈ xs, ∀ y ∈ ys, ∃ b, E x y b) → ∃ b, EqA E xs ys b
  | [], [], _ => ⟨_, .nil⟩
  | [], _ :: _, _ => ⟨_, .l⟩
  | _ :: _, [], _ => ⟨_, .r⟩
  | x :: xs, y :: ys, h => by
    obtain ⟨b, hb⟩ := h x List.mem_cons_self y List.mem_cons_self
    cases b with
    | false => exact ⟨_, .miss hb⟩
    | true =>
      obtain ⟨c, hc⟩ := EqA.any (xs := xs) (ys := ys) fun x hx y hy => h x (List.mem_cons_of_mem _ hx) y (List.mem_cons_of_mem _ hy)
      exact ⟨c, .hit hb hc⟩
end DL
namespace K28
open PySem PySem.Spec PyProof.Rows L2 DL
theorem plD_self {own : Str → Option Str} : ∀ (n : Nat) (d : D), plD n d = true → EqN own n d d true := fun n => by
  induction n with
  | zero =>
    intro d h
    cases d <;> first | exact ⟨_, _, rfl, rfl, (eqV_self rfl).symm⟩ | (cases h; done)
  | succ n ih =>
    intro d h
    cases d with
    | lst xs =>
      have z : (decide (xs.length < 1000) && xs.all (plD n)) = true := h
      rw [Bool.and_eq_true] at z
      exact .inr (.inl ⟨xs, xs, rfl, rfl, EqA.self fun x hx => ih x (List.all_eq_true.mp z.2 x hx)⟩)
    | tup xs =>
      have z : (decide (xs.length < 1000) && xs.all (plD n)) = true := h
      rw [Bool.and_eq_true] at z
      exact .inr (.inr (.inl ⟨xs, xs, rfl, rfl, EqA.self fun x hx => ih x (List.all_eq_true.mp z.2 x hx)⟩))
    | dct _ => cases h
    | ins _ _ => cases h
    | exc _ _ => cases h
    | _ => exact eqN_up (n := 0) ⟨_, _, rfl, rfl, (eqV_self rfl).symm⟩ (Nat.zero_le _)
theorem scal_self {v : V} (h : flatV v = true) : scal v v = true := by
  cases v <;> first | rfl | (exact h) | (cases h; done)
theorem topE_self (d : D) : topE d d := fun v w hv hw => by
  rw [hv] at hw
  cases hw
  cases d <;> first | (cases hv; rfl; done) | (cases hv; done)
theorem showD_of {d : D} (h1 : seqD d = true) (h2 : (pyD d).showable = true) (h3 : (pyD d).depth ≤ 40) (h4 : (pyD d).leavesShort 20 = true) (h5 : (pyD d).weight ≤ 500000) : showD d :=
  ⟨h1, h2, h3, by
    have := PyData.shown_le 20 (by decide) (pyD d) h4
    rw [sizeLine_eq]
    omega⟩
/-- what may be asked of _law_is -/
structure IsOk (d : D) : Prop where
  pl : plD 2 d = true
  sh : showD d
theorem law_is {wa wb : WE} {rs : List R} {env env1 env2 : EnvD} {d : D} {Ed : XD → EnvD → Prop} (ok : IsOk d) (ha : Av (wCons wa (wCons wb wNil)) env rs env1) (hz : ∀ P : List Ar → EnvD → Prop, P [.im d, .im d] env2 → fzm [false, false] rs env1 P) : Ev (wCall s_law_is [false, false] [] (wCons wa (wCons wb wNil)) Ed) env (.sh (.bl true)) env2 :=
  Ev.call (as := [.im d, .im d]) ha hz List.nodup_nil rfl fun Q q => ⟨d, rfl, ok.pl, eqN_up (plD_self 2 d ok.pl) (by decide), ok.sh, topE_self d, q⟩
theorem is_int {n : Int} (h : n.natAbs < 1000) : IsOk (.int n) := by
  refine ⟨rfl, showD_of rfl ?_ (Nat.zero_le _) ?_ ?_⟩
  · have : n.natAbs.log2 < 1920 := by
      by_cases z : n.natAbs = 0
      · rw [z]; decide
      · have := Nat.log2_self_le z
        have l2 := Nat.log2_lt z (k := 1920)
        exact l2.mpr (by
          have : (2 : Nat) ^ 10 ≤ 2 ^ 1920 := Nat.pow_le_pow_right (by decide) (by decide)
          have e : (2 : Nat) ^ 10 = 1024 := by decide
          omega)
    simpa [pyD, PyData.showable] using this
  · have : (PyData.shown (.int n)).length ≤ 13 := PyData.shown_int_le2 (by omega) (by omega)
    simp only [pyD, PyData.leavesShort, decide_eq_true_eq]
    omega
  · have : PyData.weight (.int n) ≤ 1000 := by
      show (if n == 0 then 0 else n.natAbs.log2 + 1) ≤ 1000
      split
      · omega
      · rename_i z
        have z2 : n.natAbs ≠ 0 := by simpa using z
        have l2 := (Nat.log2_lt z2 (k := 10)).mpr (by have e : (2 : Nat) ^ 10 = 1024 := (by decide); omega)
        omega
    show PyData.weight (.int n) ≤ _
    omega
def nmOk (x : Str) : Bool := decide (x.length ≤ 8) && x.cps.toList.all fun c => decide (c < 16 ^ 8)
theorem nmOk_of {x : Str} (h : nameOk x = true) : nmOk x = true := by
  unfold nameOk at h
  rw [Bool.and_eq_true] at h
  unfold nmOk
  rw [Bool.and_eq_true]
  refine ⟨by have := of_decide_eq_true h.1; exact decide_eq_true this.2, List.all_eq_true.mpr fun c hc => ?_⟩
  have m := of_decide_eq_true (List.all_eq_true.mp h.2 c hc)
  have al : ∀ c ∈ letters.cps.toList, c < 16 ^ 8 := by decide +kernel
  exact decide_eq_true (al c m)
theorem pyDs_map {f : Str → D} (xs : List Str) : pyDs (xs.map f) = xs.map fun x => pyD (f x) := by
  induction xs with
  | nil => rfl
  | cons x xs ih =>
    rw [List.map_cons, List.map_cons, ← ih]
    rfl
theorem is_strs {xs : List Str} (h : ∀ x ∈ xs, nmOk x = true) (hl : xs.length ≤ 100) : IsOk (.tup (sDs xs)) := by
  have e : pyD (.tup (sDs xs)) = .tuple (xs.map .str) := by
    show PyData.tuple (pyDs (xs.map .str)) = _
    rw [pyDs_map]
    rfl
  have h8 : ∀ x ∈ xs, x.length ≤ 8 := fun x hx => by
    have := h x hx
    unfold nmOk at this
    rw [Bool.and_eq_true] at this
    exact of_decide_eq_true this.1
  refine ⟨?_, showD_of ?_ ?_ ?_ ?_ ?_⟩
  · show (decide ((sDs xs).length < 1000) && (sDs xs).all (plD 1)) = true
    rw [Bool.and_eq_true]
    refine ⟨decide_eq_true (by simp [sDs]; omega), List.all_eq_true.mpr fun d hd => ?_⟩
    obtain ⟨x, hx, rfl⟩ := List.mem_map.mp hd
    have := h8 x hx
    exact decide_eq_true (Nat.le_of_lt (small_line (by omega)))
  · show seqDs (xs.map .str) = true
    clear e h h8 hl
    induction xs with
    | nil => rfl
    | cons x xs ih => exact ih
  · rw [e]
    simp only [PyData.showable]
    exact PyData.showableAll_strs xs
  · rw [e]
    have : PyData.depthAll (xs.map .str) = 0 := by
      clear e h h8 hl
      induction xs with
      | nil => rfl
      | cons x xs ih =>
        show max 0 (PyData.depthAll (xs.map .str)) = 0
        rw [ih]
        rfl
    show PyData.depthAll (xs.map .str) + 1 ≤ 40
    omega
  · rw [e]
    simp only [PyData.leavesShort]
    clear e h8 hl
    induction xs with
    | nil => rfl
    | cons x xs ih =>
      show (PyData.leavesShort 20 (.str x) && PyData.leavesShortAll 20 (xs.map .str)) = true
      rw [ih fun y hy => h y (List.mem_cons_of_mem _ hy), Bool.and_true]
      have := h x List.mem_cons_self
      unfold nmOk at this
      rw [Bool.and_eq_true] at this
      exact this.2
  · rw [e]
    have : PyData.weightAll (xs.map .str) ≤ 9 * xs.length := by
      clear e h hl
      induction xs with
      | nil => exact Nat.le_refl _
      | cons x xs ih =>
        have a := ih fun y hy => h8 y (List.mem_cons_of_mem _ hy)
        have b := h8 x List.mem_cons_self
        have c : x.length = x.cps.size := rfl
        show x.cps.size + 1 + PyData.weightAll (xs.map .str) ≤ 9 * (xs.length + 1)
        omega
    show PyData.weightAll (xs.map .str) ≤ _
    omega
theorem is_told : IsOk (.lst [.tup [.str "k", .str "l"], .tup [.str "a", .str "b"], .int 2]) := by
  have sz : ∀ x : Str, x.length ≤ 8 → plD 0 (.str x) = true := fun x hx => decide_eq_true (Nat.le_of_lt (small_line (by omega)))
  refine ⟨?_, showD_of rfl ?_ ?_ ?_ ?_⟩
  · show (decide (3 < 1000) && ((decide (2 < 1000) && (plD 0 (.str "k") && (plD 0 (.str "l") && true))) && ((decide (2 < 1000) && (plD 0 (.str "a") && (plD 0 (.str "b") && true))) && (true && true)))) = true
    rw [sz "k" (by decide), sz "l" (by decide), sz "a" (by decide), sz "b" (by decide)]
    rfl
  · decide +kernel
  · decide +kernel
  · decide +kernel
  · decide +kernel
end K28
namespace DL
open PySem PySem.Spec PyProof.Rows L2
section
variable {we wa wb : WE} {wt : WT} {wr : WA} {wi : WI} {wg : WG} {env env1 env2 : EnvD} {f : D → D} {c : D → Bool} {vs : List Nat} {ds : List D}
theorem cons_w {Q : List R → EnvD → Prop} (h : wa env fun r e => wr e fun rs e2 => Q (r.hold :: rs) e2) : wCons wa wr env Q := h
theorem Tv.yes : Tv wYes env true env := fun _ q => q
/-- a comprehension over any names -/
theorem Ev.lcV (hi : Iv wi env ds env1) (ok : okW env1 vs) (hl : ds.length < sizeLine) (h : ∀ d ∈ ds, ∀ P : EnvD → Prop, (∀ env2, Tv wt env2 (c d) env2 → (c d = true → Ev we env2 (.sh (f d)) env2) → wipeE env2 vs = wipeE env1 vs → P env2) → wg d (wipeE env1 vs) P) :
    Ev (wLc wi wg wt we vs) env (.fr (.lst ((ds.filter c).map f))) env1 := fun Q q => by
  refine hi _ ⟨ok, ?_⟩
  refine lcGo_mf (c := c) (f := f) ds [] (by simpa using hl) (fun d hd P hP => h d hd P fun env2 t e w => hP env2 (fun Pt p => t Pt p) (fun hc Pe p => e hc Pe p) w) ?_
  refine ⟨wipeE_length _ _, ?_⟩
  rw [unw_wipe ok]
  simpa using q
theorem Ev.mapV (hi : Iv wi env ds env1) (ok : okW env1 vs) (hl : ds.length < sizeLine) (h : ∀ d ∈ ds, ∀ P : EnvD → Prop, (∀ env2, Ev we env2 (.sh (f d)) env2 → wipeE env2 vs = wipeE env1 vs → P env2) → wg d (wipeE env1 vs) P) :
    Ev (wLc wi wg wYes we vs) env (.fr (.lst (ds.map f))) env1 := by
  have e := Ev.lcV (c := fun _ => true) (f := f) (wt := wYes) hi ok hl fun d hd P hP => h d hd P fun env2 e w => hP env2 Tv.yes (fun _ => e) w
  rw [List.filter_eq_self.mpr (fun _ _ => rfl)] at e
  exact e
/-- the same, the walk changes nothing -/
theorem Ev.mapE (hi : Iv wi env ds env) (ok : okW env vs) (hl : ds.length < sizeLine) (h : ∀ d ∈ ds, ∀ P : EnvD → Prop, (∀ env2, Ev we env2 (.sh (f d)) env2 → wipeE env2 vs = wipeE env vs → P env2) → wg d (wipeE env vs) P) : Ev (wLc wi wg wYes we vs) env (.fr (.lst (ds.map f))) env := Ev.mapV hi ok hl h
theorem Ev.lcE (hi : Iv wi env ds env) (ok : okW env vs) (hl : ds.length < sizeLine) (h : ∀ d ∈ ds, ∀ P : EnvD → Prop, (∀ env2, Tv wt env2 (c d) env2 → (c d = true → Ev we env2 (.sh (f d)) env2) → wipeE env2 vs = wipeE env vs → P env2) → wg d (wipeE env vs) P) :
    Ev (wLc wi wg wt we vs) env (.fr (.lst ((ds.filter c).map f))) env := Ev.lcV hi ok hl h
theorem okWs (nd : vs.Nodup) (h : ∀ v ∈ vs, env[v]? = some .un ∨ ∃ d, env[v]? = some (.im d)) : okW env vs := ⟨nd, fun v hv => ⟨by
  rcases h v hv with e | ⟨d, e⟩ <;> exact (List.getElem?_eq_some_iff.mp e).1, h v hv⟩⟩
theorem Ev.sum {ns : List Int} {ds : List D} (h : Ev we env (.fr (.lst ds)) env1) (e : intsD ds = some ns) : Ev (wCB fSum (wCons we wNil)) env (.sh (.int ns.sum)) env1 := .cb (rs := [.sh (.lst ds)]) (ds := [.lst ds]) (.fr h .nil) rfl fun Q q => by
  show (match intsD ds with | some ns => Q (.sh (.int ns.sum)) | none => False)
  rw [e]
  exact q
theorem Iv.items {kvs : List (Key × D)} (h : Ev we env (.sh (.dct kvs)) env1) : Iv (wItems we) env (kvs.map pairD) env1 := fun Q q => h _ q
theorem intsD_of {α : Type} (g : α → Int) (xs : List α) : intsD (xs.map fun x => D.int (g x)) = some (xs.map g) := by
  rw [← intsD_map, List.map_map]
  rfl
theorem Ev.mul {i j : Int} (ha : Ev wa env (.sh (.int i)) env1) (hb : Ev wb env1 (.sh (.int j)) env2) (c : CMul i j) : Ev (wB fMul wa wb) env (.sh (.int (i * j))) env2 := Ev.B ha hb rfl rfl fun _ q => ⟨c, q⟩
end
end DL
namespace K28
open PySem PySem.Spec PyProof.Rows L2 DL
theorem nm_ok {x : Str} (h : nameOk x = true) : okD (.str x) = true := by
  have := nmOk_of h
  unfold nmOk at this
  rw [Bool.and_eq_true] at this
  have l := of_decide_eq_true this.1
  exact decide_eq_true (Nat.le_of_lt (small_line (by omega)))
/-- a dict's pairs read back -/
def unS : D → List (Str × Int)
  | .dct kvs => kvs.filterMap fun kv => match kv with
    | (.inr x, .int i) => some (x, i)
    | _ => none
  | _ => []
theorem unS_dK (ps : List (Str × Int)) : unS (.dct (dK ps)) = ps := by
  show (dK ps).filterMap _ = _
  unfold dK
  rw [List.filterMap_map]
  induction ps with
  | nil => rfl
  | cons p ps ih =>
    rw [List.filterMap_cons]
    show (p.1, p.2) :: _ = _
    rw [ih]
theorem pairs_z (zs : List (Str × Int)) : (dK zs).map DL.pairD = zs.map fun p => .tup [.str p.1, .int p.2] := by
  unfold dK
  rw [List.map_map]
  rfl
theorem p_are_some_sizes (args : List Sl) (Qd : R → EnvD → Prop) (Ed : XD → EnvD → Prop) (h : s_are_some_sizes args Qd Ed) : b_are_some_sizes (args ++ uns 2) (ends 1 Qd) := by
  obtain ⟨zs, rfl, ⟨ok, hl⟩, h⟩ := h
  have t : Tv (wNotT (wBl (wIsi i_dict (wVar 0)))) [.im (.dct (dK zs)), .un, .un] (!true) [.im (.dct (dK zs)), .un, .un] := .not (.bl (.isi (.var rfl) rfl is_dct))
  refine seq_if_F t ?_
  have e := Ev.mapE (wi := wItems (wVar 0)) (wg := gT 2 (gsCons (gN 1) (gsCons (gN 2) (gsNil)))) (we := wAndV (wCall s_is_name [false] [] (wCons (wVar 1) (wNil)) (fun _ _ => False)) (wCall s_is_from [false, false] [] (wCons (wVar 2) (wCons (wC (.int 1)) (wNil))) (fun _ _ => False))) (vs := [1, 2]) (env := [.im (.dct (dK zs)), .un, .un]) (ds := zs.map fun p => .tup [.str p.1, .int p.2]) (f := fun _ => .bl true)
    (by rw [← pairs_z]; exact .items (.var rfl)) (okWs (by decide) fun v hv => by
      have : v = 1 ∨ v = 2 := by simpa using hv
      rcases this with rfl | rfl <;> exact .inl rfl) (by rw [List.length_map]; exact small_line (by omega)) fun d hd P hP => by
    obtain ⟨p, hp, rfl⟩ := List.mem_map.mp hd
    obtain ⟨n1, n2⟩ := ok p hp
    refine ⟨rfl, (by decide : 1 < 3), (by decide : 2 < 3), rfl, hP _ ?_ rfl⟩
    refine .andT (.call1 (.var (k := 1) rfl) (fun Q E q => ⟨.str p.1, rfl, nm_ok n1, by rw [show isName (.str p.1) = true from n1]; exact q⟩) fun Q q => q) (.call (as := [.im (.int p.2), .im (.int 1)]) (.sh (.var (k := 2) rfl) (.sh .cst .nil)) (fun _ q => q) List.nodup_nil rfl fun Q q => ⟨.int p.2, 1, rfl, rfl, ?_⟩)
    · rw [show isFrom (.int p.2) 1 = true from decide_eq_true n2]
      exact q
  obtain ⟨bs, hb1, hb2⟩ := blsD_true (xs := zs.map fun p => D.tup [.str p.1, .int p.2]) (g := fun _ => .bl true) fun _ _ => rfl
  have a := Ev.all e hb1
  rw [hb2] at a
  exact ret_sh a h
theorem p_need_sizes (args : List Sl) (Qd : R → EnvD → Prop) (Ed : XD → EnvD → Prop) (h : s_need_sizes args Qd Ed) : b_need_sizes (args ++ uns 1) (ends 2 Qd) := by
  obtain ⟨ns, zs, rfl, so, hl, hn, h⟩ := h
  have t1 : Tv (wNotT (wBl (wCall s_are_some_sizes [false] [] (wCons (wVar 1) (wNil)) (fun _ _ => False)))) [.im (.tup (sDs ns)), .im (.dct (dK zs)), .un] (!true) [.im (.tup (sDs ns)), .im (.dct (dK zs)), .un] :=
    .not (.bl (.call1 (.var (k := 1) rfl) (fun Q E q => ⟨zs, rfl, so, q⟩) fun Q q => q))
  have e := Ev.lc1 (wi := wIt (wVar 0)) (wt := wYes) (we := wB (fIn false) (wVar 2) (wVar 1)) (env := [.im (.tup (sDs ns)), .im (.dct (dK zs)), .un]) (ds := sDs ns) (c := fun _ => true) (f := fun _ => .bl true) (.itS (d := .tup (sDs ns)) (.var (k := 0) rfl) rfl) (k := 2) rfl (by simp [sDs]; exact small_line (by omega)) (fun _ _ => Tv.yes) fun d hd _ => by
    obtain ⟨x, hx, rfl⟩ := List.mem_map.mp hd
    refine .B (da := .str x) (db := .dct (dK zs)) (.var (k := 2) rfl) (.var (k := 1) rfl) rfl rfl fun Q q => ?_
    obtain ⟨v, hv, _⟩ := getP_some (hn x hx)
    show Q (.sh (.bl (vD (dK zs) (.inr x)).isSome))
    rw [vD_dK, hv]
    exact q
  rw [List.filter_eq_self.mpr (fun _ _ => rfl)] at e
  obtain ⟨bs, hb1, hb2⟩ := blsD_true (xs := sDs ns) (g := fun _ => .bl true) fun _ _ => rfl
  have a := Ev.all e hb1
  rw [hb2] at a
  exact if_F (.orF t1 (.not (b := true) (.bl a))) h
theorem p_worth_at (args : List Sl) (Qd : R → EnvD → Prop) (Ed : XD → EnvD → Prop) (h : s_worth_at args Qd Ed) : b_worth_at (args ++ uns 2) (ends 2 Qd) := by
  obtain ⟨ps, zs, rfl, ⟨so, _⟩, sm, hl, hk, h⟩ := h
  have e := Ev.mapE (wi := wItems (wFld ["Sum"] "own_parts" (wVar 0))) (wg := gT 2 (gsCons (gN 2) (gsCons (gN 3) (gsNil)))) (we := wB fMul (wVar 3) (wB fIx (wVar 1) (wVar 2))) (vs := [2, 3]) (env := [.im (mkSum ps), .im (.dct (dK zs)), .un, .un]) (ds := ps.map fun p => .tup [.str p.1, .int p.2]) (f := fun d => match d with
      | .tup [.str x, .int i] => .int (i * (getP zs x).getD 0)
      | _ => .non)
    (by rw [← pairs_z]; exact .items (.fld (cs := ["Sum"]) (.var (k := 0) rfl) rfl (List.mem_singleton.mpr rfl) rfl)) (okWs (by decide) fun v hv => by
      have : v = 2 ∨ v = 3 := by simpa using hv
      rcases this with rfl | rfl <;> exact .inl rfl) (by rw [List.length_map]; exact small_line (by omega)) fun d hd P hP => by
    obtain ⟨p, hp, rfl⟩ := List.mem_map.mp hd
    obtain ⟨v, hv, hm⟩ := getP_some (hk p hp)
    refine ⟨rfl, (by decide : 2 < 4), (by decide : 3 < 4), rfl, hP _ ?_ rfl⟩
    dsimp only
    rw [hv]
    have z1 := (so _ hm).2
    have z2 := sm _ hm
    exact .mul (.var (k := 3) rfl) (.ixD (.var (k := 1) rfl) rfl (.var (k := 2) rfl) hv) (.inr ⟨by show -(2 ^ 64) < v; omega, by show v < 2 ^ 64; omega⟩)
  rw [List.map_map] at e
  have s := Ev.sum e (intsD_of (fun p : Str × Int => p.2 * (getP zs p.1).getD 0) ps)
  exact ret_sh s h
theorem p_numbers_at (args : List Sl) (Qd : R → EnvD → Prop) (Ed : XD → EnvD → Prop) (h : s_numbers_at args Qd Ed) : b_numbers_at (args ++ uns 4) (ends 2 Qd) := by
  obtain ⟨ls, ks, ns, zs, rfl, ⟨so, sm, hl, hls⟩, h⟩ := h
  have e := Ev.mapE (wi := wIt (wFld ["Loop"] "loop_pipes" (wVar 0))) (wg := gT 4 (gsCons (gN 2) (gsCons (gN 3) (gsCons (gN 4) (gsCons (gN 5) (gsNil)))))) (we := wTup (wCons (wVar 2) (wCons (wVar 3) (wCons (wCall s_worth_at [false, false] [] (wCons (wVar 4) (wCons (wVar 1) (wNil))) (fun _ _ => False)) (wCons (wCall s_worth_at [false, false] [] (wCons (wVar 5) (wCons (wVar 1) (wNil))) (fun _ _ => False)) (wNil)))))) (vs := [2, 3, 4, 5]) (env := [.im (mkLoop (ls.map lpD) ks ns), .im (.dct (dK zs)), .un, .un, .un, .un]) (ds := ls.map lpD) (f := fun d => match d with
      | .tup [.str a, .str b, .ins _ [(_, x)], .ins _ [(_, y)]] => pD (a, b, worth (unS x) zs, worth (unS y) zs)
      | _ => .non)
    (.itS (d := .tup (ls.map lpD)) (.fld (cs := ["Loop"]) (.var (k := 0) rfl) rfl (List.mem_singleton.mpr rfl) rfl) rfl) (okWs (by decide) fun v hv => by
      have : v = 2 ∨ v = 3 ∨ v = 4 ∨ v = 5 := by simpa using hv
      rcases this with rfl | rfl | rfl | rfl <;> exact .inl rfl) (by rw [List.length_map]; exact small_line (by omega)) fun d hd P hP => by
    obtain ⟨l, hl2, rfl⟩ := List.mem_map.mp hd
    obtain ⟨l1, l2, k1, k2⟩ := hls l hl2
    refine ⟨rfl, (by decide : 2 < 6), (by decide : 3 < 6), (by decide : 4 < 6), (by decide : 5 < 6), rfl, hP _ ?_ rfl⟩
    have w1 : unS (.dct (dK l.2.2.1)) = l.2.2.1 := unS_dK _
    have w2 : unS (.dct (dK l.2.2.2)) = l.2.2.2 := unS_dK _
    show Ev _ _ (.sh (pD (l.1, l.2.1, worth (unS (.dct (dK l.2.2.1))) zs, worth (unS (.dct (dK l.2.2.2))) zs))) _
    rw [w1, w2]
    exact .tup (.sh (.var (k := 2) rfl) (.sh (.var (k := 3) rfl) (.sh (.call (as := [.im (mkSum l.2.2.1), .im (.dct (dK zs))]) (.sh (.var (k := 4) rfl) (.sh (.var (k := 1) rfl) .nil)) (fun _ q => q) List.nodup_nil rfl fun Q q => ⟨l.2.2.1, zs, rfl, so, sm, l1, k1, q⟩)
      (.sh (.call (as := [.im (mkSum l.2.2.2), .im (.dct (dK zs))]) (.sh (.var (k := 5) rfl) (.sh (.var (k := 1) rfl) .nil)) (fun _ q => q) List.nodup_nil rfl fun Q q => ⟨l.2.2.2, zs, rfl, so, sm, l2, k2, q⟩) .nil)))) fun _ q => q
  rw [List.map_map] at e
  have ef : (ls.map ((fun d => match d with
      | .tup [.str a, .str b, .ins _ [(_, x)], .ins _ [(_, y)]] => pD (a, b, worth (unS x) zs, worth (unS y) zs)
      | _ => .non) ∘ lpD)) = psD (ls.map (atZ zs)) := by
    unfold psD
    rw [List.map_map]
    refine List.map_congr_left fun l _ => ?_
    show pD (l.1, l.2.1, worth (unS (.dct (dK l.2.2.1))) zs, worth (unS (.dct (dK l.2.2.2))) zs) = pD (atZ zs l)
    rw [unS_dK, unS_dK]
    rfl
  rw [ef] at e
  exact ret_fr e h
theorem p_begun_at (args : List Sl) (Qd : R → EnvD → Prop) (Ed : XD → EnvD → Prop) (h : s_begun_at args Qd Ed) : b_begun_at (args ++ uns 3) (ends 2 Qd) := by
  obtain ⟨ps, s, ss, p, rfl, hp, h⟩ := h
  obtain ⟨at_, way, room⟩ := s
  have lt : at_ < ps.length := (List.getElem?_eq_some_iff.mp hp).1
  have ge : ps[at_] = p := (List.getElem?_eq_some_iff.mp hp).2
  have ix : ∀ env : EnvD, env[0]? = some (.im (.lst (psD ps))) → env[2]? = some (.im (.int (at_ : Nat))) → Ev (wB fIx (wVar 0) (wVar 2)) env (.sh (pD p)) env := fun env h0 h2 => .ixL (.var h0) (.var h2) (by rfl) (by
    have : at_ < (psD ps).length := by simpa [psD] using lt
    rw [atI_at this]
    simp [psD, ge])
  refine seq_of (show sAsg _ _ [.im (.lst (psD ps)), .im (.lst (((at_, way, room) :: ss).map stD)), .un, .un, .un] _ from (Ev.ixL (.var (k := 1) rfl) .cst rfl at0 : Ev (wB fIx (wVar 1) (wC (.int 0))) _ (.sh (stD (at_, way, room))) _) _ ⟨rfl, (by decide : 2 < 5), (by decide : 3 < 5), (by decide : 4 < 5), rfl, ?_⟩)
  have t := (Tv.bl (.eqI (own := own0) (n := 0) (.var (k := 3) rfl) .cst) : Tv (wBl (wEq own0 0 (wVar 3) (wC (.int 1)))) [.im (.lst (psD ps)), .im (.lst (((at_, way, room) :: ss).map stD)), .im (.int (at_ : Nat)), .im (.int way), .im (.int room)] (decide (way = 1)) [.im (.lst (psD ps)), .im (.lst (((at_, way, room) :: ss).map stD)), .im (.int (at_ : Nat)), .im (.int way), .im (.int room)])
  have q : s_begun_at = s_begun_at := rfl
  by_cases hw : way = 1
  · rw [decide_eq_true hw] at t
    rw [show (if ((at_, way, room) : Stp).2.1 = 1 then p.1 else p.2.1) = p.1 from if_pos hw] at h
    exact ret_sh (.ifT t (.ixT (ix _ rfl rfl) .cst at0)) h
  · rw [decide_eq_false hw] at t
    rw [show (if ((at_, way, room) : Stp).2.1 = 1 then p.1 else p.2.1) = p.2.1 from if_neg hw] at h
    exact ret_sh (.ifF t (.ixT (ix _ rfl rfl) .cst at1)) h
end K28
namespace K28
open PySem PySem.Spec PyProof.Rows L2 DL
/-! ### dicts from knots to numbers -/
def fK (ks : List Str) (f : Str → Int) : List (Str × Int) := ks.map fun k => (k, f k)
theorem fK_keys (ks : List Str) (f : Str → Int) : (fK ks f).map (·.1) = ks := by
  unfold fK
  rw [List.map_map]
  exact List.map_id' ks
theorem getP_fK {ks : List Str} {f : Str → Int} {a : Str} (nd : ks.Nodup) (h : a ∈ ks) : getP (fK ks f) a = some (f a) :=
  getP_pair (by rw [fK_keys]; exact nd) (a, f a) (List.mem_map.mpr ⟨a, h, rfl⟩)
theorem putP_fK {ks : List Str} {f : Str → Int} {a : Str} {v : Int} (h : a ∈ ks) : putP (fK ks f) a v = fK ks fun k => if k = a then v else f k := by
  unfold putP
  rw [if_pos]
  · unfold fK
    rw [List.map_map]
    refine List.map_congr_left fun k _ => ?_
    show (if k = a then (k, v) else (k, f k)) = (k, if k = a then v else f k)
    by_cases e : k = a
    · rw [if_pos e, if_pos e]
    · rw [if_neg e, if_neg e]
  · exact List.any_eq_true.mpr ⟨(a, f a), List.mem_map.mpr ⟨a, h, rfl⟩, decide_eq_true rfl⟩
theorem fK_congr {ks : List Str} {f g : Str → Int} (h : ∀ k ∈ ks, f k = g k) : fK ks f = fK ks g := List.map_congr_left fun k hk => by rw [h k hk]
/-- all begin at 0 -/
theorem nb_zero {env : EnvD} {Q : D → EnvD → Prop} (hu : env[5]? = some .un) : ∀ (ys : List Str) (acc : List (Str × Int)), (acc.map (·.1) ++ ys).Nodup → acc.length + ys.length < 1000 → Q (.dct (dK (acc ++ fK ys fun _ => 0))) env →
    nbGo (gN 5) (wYes) (wbLast (wVar 5) (wC (.int 0))) [5] (ys.map D.str) (.dct (dK acc)) env Q
  | [], acc, _, _, q => by simpa [nbGo, fK] using q
  | y :: ys, acc, nd, hl, q => by
    have lt : 5 < env.length := (List.getElem?_eq_some_iff.mp hu).1
    simp only [List.length_cons] at hl
    have ew : wipeE (env.set 5 (.im (.str y))) [5] = env := by
      show (env.set 5 (.im (.str y))).set 5 .un = env
      rw [List.set_set]
      have e : env[5] = .un := (List.getElem?_eq_some_iff.mp hu).2
      rw [← e, List.set_getElem_self]
    have hv : (env.set 5 (.im (.str y)))[5]? = some (.im (.str y)) := List.getElem?_set_self lt
    refine ⟨lt, ?_⟩
    dsimp only [wYes]
    rw [if_pos rfl]
    refine (Ev.var hv) _ ?_
    show (dK acc).length < sizeLine ∧ nbGo _ _ _ _ _ (.dct (putD (dK acc) (.inr y) (.int 0))) _ _
    refine ⟨by rw [len_dK]; exact small_line (by omega), ?_⟩
    rw [putD_dK]
    have ny : y ∉ acc.map (·.1) := fun z => (List.nodup_append.mp nd).2.2 y z y List.mem_cons_self rfl
    have ep : putP acc y 0 = acc ++ [(y, 0)] := by
      unfold putP
      rw [if_neg]
      intro z
      obtain ⟨p, hp, e⟩ := List.any_eq_true.mp z
      exact ny (by rw [← of_decide_eq_true e]; exact List.mem_map_of_mem hp)
    rw [ep, ew]
    refine nb_zero hu ys (acc ++ [(y, 0)]) (by simpa using nd) (by simp; omega) ?_
    simpa [fK] using q
/-- found[k] op= x -/
theorem aug_of {g : Int → Int → Int} {wo wi we : WE} {env : EnvD} {j : Nat} {ks : List Str} {f : Str → Int} {a : Str} {x : Int} {De : DEnds} (nd : ks.Nodup) (hl : ks.length < 1000) (ha : a ∈ ks) (hj : env[j]? = some (.ow (.dct (dK (fK ks f))))) (ho : Ev wo env (.br j) env) (hi : Ev wi env (.sh (.str a)) env) (he : Ev we env (.sh (.int x)) env)
    (q : De.nx (env.set j (.ow (.dct (dK (fK ks fun k => if k = a then g (f a) x else f k)))))) : sAugIx g wo wi we env De := by
  have pj : pk env (.br j) = some (.dct (dK (fK ks f))) := by
    show (match env[j]? with | some (.ow d) => some d | some (.pm d) => some d | _ => none) = _
    rw [hj]
  refine ho _ (hi _ ?_)
  show (match pk env (.br j) with
    | some c => (match getAt c (.str a) with
      | some (.int b) => we env fun r env3 => (match pk env3 r with
        | some (.int b2) => pk env3 (.br j) = some c ∧ (plainV (.str a)).isSome = true ∧ putAt c (.str a) (.int (g b b2)) fun c' => De.nx (setD env3 j c')
        | _ => False)
      | _ => False)
    | none => False)
  rw [pj]
  have ga : getAt (.dct (dK (fK ks f))) (.str a) = some (.int (f a)) := by
    show vD (dK (fK ks f)) (.inr a) = _
    rw [vD_dK, getP_fK nd ha]
    rfl
  dsimp only
  rw [ga]
  refine he _ ⟨pj, rfl, ?_⟩
  refine ⟨by rw [len_dK]; unfold fK; rw [List.length_map]; exact small_line (by omega), ?_⟩
  rw [putD_dK, putP_fK ha]
  have sd : ∀ d, setD env j d = env.set j (.ow d) := fun d => by unfold setD; rw [hj]
  show De.nx (setD env j _)
  rw [sd]
  exact q
theorem endsL_psD : ∀ ps : List Pp, endsL (psD ps) = endsP ps
  | [] => rfl
  | p :: ps => by
    show endsL (pD p :: psD ps) = _
    rw [endsL_cons, endsL_psD ps]
    rfl
theorem psD_ends (ps : List Pp) : ∀ x ∈ psD ps, HasEnds x := fun x hx => by
  obtain ⟨p, _, rfl⟩ := List.mem_map.mp hx
  exact ⟨p.1, p.2.1, _, rfl⟩
theorem gath_go {ks : List Str} {s0 s1 : Sl} {De : DEnds} (nd : ks.Nodup) (hl : ks.length < 1000) : ∀ (ps : List Pp) (xs : List Int) (f : Str → Int) (u v : Sl), xs.length = ps.length → (∀ p ∈ ps, p.1 ∈ ks ∧ p.2.1 ∈ ks) → (∀ u v, De.nx [s0, s1, .ow (.dct (dK (fK ks fun k => f k + exs ps xs k))), u, v, .un]) →
    forGo (gT 2 (gsCons (gN 3) (gsCons (gN 4) (gsNil)))) (sSeq (sAugIx (fun i j => i - j) (wVar 2) (wB fIx (wVar 3) (wC (.int 0))) (wVar 4)) (sAugIx (fun i j => i + j) (wVar 2) (wB fIx (wVar 3) (wC (.int 1))) (wVar 4))) (zipD (psD ps) (iD xs)) [s0, s1, .ow (.dct (dK (fK ks f))), u, v, .un] De
  | [], [], f, u, v, _, _, q => by
    have e : fK ks (fun k => f k + exs [] [] k) = fK ks f := fK_congr fun k _ => Int.add_zero _
    have q2 := q u v
    rw [e] at q2
    exact q2
  | [], _ :: _, f, u, v, h, _, _ => by cases h
  | _ :: _, [], f, u, v, h, _, _ => by cases h
  | (a, b, l, w) :: ps, x :: xs, f, u, v, h, hk, q => by
    obtain ⟨ka, kb⟩ := hk _ List.mem_cons_self
    refine ⟨rfl, (by decide : 3 < 6), (by decide : 4 < 6), rfl, ?_⟩
    have i0 : Ev (wB fIx (wVar 3) (wC (.int 0))) [s0, s1, .ow (.dct (dK (fK ks f))), .im (pD (a, b, l, w)), .im (.int x), .un] (.sh (.str a)) [s0, s1, .ow (.dct (dK (fK ks f))), .im (pD (a, b, l, w)), .im (.int x), .un] := .ixT (.var rfl) .cst at0
    refine seq_of (aug_of (env := [s0, s1, .ow (.dct (dK (fK ks f))), .im (pD (a, b, l, w)), .im (.int x), .un]) (j := 2) nd hl ka rfl (.varO rfl) i0 (.var rfl) ?_)
    refine aug_of (g := fun i j => i + j) (env := [s0, s1, .ow (.dct (dK (fK ks fun k => if k = a then f a - x else f k))), .im (pD (a, b, l, w)), .im (.int x), .un]) (j := 2) (x := x) nd hl kb rfl (.varO rfl) (.ixT (.var (k := 3) rfl) .cst at1) (.var (k := 4) rfl) ?_
    have e : fK ks (fun k => if k = b then (if b = a then f a - x else f b) + x else if k = a then f a - x else f k) = fK ks fun k => f k + ((if b = k then x else 0) - (if a = k then x else 0)) := fK_congr fun k _ => by
      by_cases e1 : k = b
      · subst e1
        by_cases e2 : k = a
        · subst e2
          simp
        · have e3 : ¬ a = k := fun z => e2 z.symm
          simp [e2, e3]
      · have e1' : ¬ b = k := fun z => e1 z.symm
        by_cases e2 : k = a
        · subst e2
          simp [e1, e1']
          omega
        · have e3 : ¬ a = k := fun z => e2 z.symm
          simp [e1, e2, e1', e3]
    show forGo _ _ (zipD (psD ps) (iD xs)) [s0, s1, .ow (.dct (dK (fK ks (fun k => if k = b then (if b = a then f a - x else f b) + x else if k = a then f a - x else f k)))), .im (pD (a, b, l, w)), .im (.int x), .un] De
    rw [e]
    refine gath_go nd hl ps xs _ _ _ (by simpa using h) (fun p hp => hk p (List.mem_cons_of_mem _ hp)) fun u v => ?_
    have e2 : fK ks (fun k => f k + ((if b = k then x else 0) - (if a = k then x else 0)) + exs ps xs k) = fK ks fun k => f k + exs ((a, b, l, w) :: ps) (x :: xs) k := fK_congr fun k _ => Int.add_assoc _ _ _
    rw [e2]
    exact q u v
theorem mem_endsP {ps : List Pp} {p : Pp} (h : p ∈ ps) : p.1 ∈ endsP ps ∧ p.2.1 ∈ endsP ps := ⟨List.mem_flatMap.mpr ⟨p, h, by simp⟩, List.mem_flatMap.mpr ⟨p, h, by simp⟩⟩
theorem endsP_len : ∀ ps : List Pp, (endsP ps).length = 2 * ps.length
  | [] => rfl
  | p :: ps => by
    show ([p.1, p.2.1] ++ endsP ps).length = _
    rw [List.length_append, endsP_len ps]
    simp only [List.length_cons, List.length_nil]
    omega
theorem p_gathered (args : List Sl) (Qd : R → EnvD → Prop) (Ed : XD → EnvD → Prop) (h : s_gathered args Qd Ed) : b_gathered (args ++ uns 4) (ends 2 Qd) := by
  obtain ⟨ps, d, xs, rfl, hd, hl, h12, h⟩ := h
  refine seq_set_w (De := ends 2 Qd) (env := [.im (.lst (psD ps)), .im d, .un, .un, .un, .un]) ?_
  refine ends_call (we := wVar 0) (xs := psD ps) (d := .lst (psD ps)) (Ed := fun _ _ => False) (env1 := [.im (.lst (psD ps)), .im d, .un, .un, .un, .un]) (.var rfl) (fun _ q => q) (.inl rfl) (psD_ends ps) (by simp [psD]; omega) fun ks hk => ?_
  rw [endsL_psD] at hk
  have lk : ks.length < 1000 := by
    have := nodup_le hk.2.1 (ys := endsP ps) fun s hs => (hk.2.2 s).mp hs
    rw [endsP_len] at this
    omega
  have ok : okW [.im (.lst (psD ps)), .im d, .un, .un, .un, .un] [5] := okW1 (.inl rfl)
  refine ⟨ok, ?_⟩
  refine nb_zero (env := [.im (.lst (psD ps)), .im d, .un, .un, .un, .un]) rfl ks [] (by simpa using hk.2.1) (by simpa using lk) ?_
  refine ⟨rfl, (by decide : 2 < 6), ?_⟩
  rw [List.nil_append]
  refine seq_for_w (env := [.im (.lst (psD ps)), .im d, .ow (.dct (dK (fK ks fun _ => 0))), .un, .un, .un]) ?_
  refine (Av.sh (.var (k := 0) rfl) (.sh (.var (k := 1) rfl) .nil)) _ ?_
  show (match lsT (.lst (psD ps)), lsT d with | some xs, some ys => forGo _ _ (zipD xs ys) _ _ | _, _ => False)
  rw [hd]
  refine gath_go hk.2.1 lk ps xs _ _ _ hl (fun p hp => ⟨(hk.2.2 _).mpr (mem_endsP hp).1, (hk.2.2 _).mpr (mem_endsP hp).2⟩) fun u v => ?_
  refine ret_ow (De := ends 2 Qd) (i := 2) (d := .dct (dK (fK ks fun k => 0 + exs ps xs k))) (env1 := [.im (.lst (psD ps)), .im d, .ow (.dct (dK (fK ks fun k => 0 + exs ps xs k))), u, v, .un]) (.varO rfl) rfl ?_
  have e : fK ks (fun k => 0 + exs ps xs k) = ks.map fun k => (k, exs ps xs k) := fK_congr fun k _ => Int.zero_add _
  rw [e]
  exact h ks hk
end K28
namespace DL
open PySem PySem.Spec PyProof.Rows L2
section
variable {we wa wb wcc : WE} {wt : WT} {wr : WA} {wi : WI} {wg : WG} {env env1 env2 env3 : EnvD} {vs : List Nat} {α : Type} {c : α → Bool} {f h : α → D}
/-- a comprehension over what stands for a list -/
theorem lcGo_A {Q : List D → EnvD → Prop} : ∀ (xs : List α) (acc : List D), acc.length + xs.length < sizeLine → (∀ x ∈ xs, ∀ P : EnvD → Prop, (∀ env2, Tv wt env2 (c x) env2 → (c x = true → Ev we env2 (.sh (f x)) env2) → wipeE env2 vs = env → P env2) → wg (h x) env P) →
    Q (acc ++ (xs.filter c).map f) env → lcGo wg wt we vs (xs.map h) acc env Q
  | [], acc, _, _, q => by simpa [lcGo] using q
  | x :: xs, acc, hl, hh, q => by
    simp only [List.length_cons] at hl
    show wg (h x) env fun env1 => wt env1 fun b env2 => if b = true then we env2 fun r env3 => fz r env3 fun z env4 => acc.length < sizeLine ∧ lcGo wg wt we vs (xs.map h) (acc ++ [z]) (wipeE env4 vs) Q else lcGo wg wt we vs (xs.map h) acc (wipeE env2 vs) Q
    refine hh x List.mem_cons_self _ fun env2 ht he hw => ht _ ?_
    cases hc : c x with
    | false =>
      rw [if_neg Bool.false_ne_true, hw]
      rw [List.filter_cons_of_neg (by simp [hc])] at q
      exact lcGo_A xs acc (by omega) (fun z hz => hh z (List.mem_cons_of_mem _ hz)) q
    | true =>
      rw [if_pos rfl]
      refine he hc _ ?_
      show acc.length < sizeLine ∧ lcGo wg wt we vs (xs.map h) (acc ++ [f x]) (wipeE env2 vs) Q
      rw [hw]
      rw [List.filter_cons_of_pos hc] at q
      exact ⟨by omega, lcGo_A xs _ (by simp; omega) (fun z hz => hh z (List.mem_cons_of_mem _ hz)) (by simpa using q)⟩
theorem Ev.lcA {xs : List α} (hi : Iv wi env (xs.map h) env1) (ok : okW env1 vs) (hl : xs.length < sizeLine) (hh : ∀ x ∈ xs, ∀ P : EnvD → Prop, (∀ env2, Tv wt env2 (c x) env2 → (c x = true → Ev we env2 (.sh (f x)) env2) → wipeE env2 vs = wipeE env1 vs → P env2) → wg (h x) (wipeE env1 vs) P) :
    Ev (wLc wi wg wt we vs) env (.fr (.lst ((xs.filter c).map f))) env1 := fun Q q => by
  refine hi _ ⟨ok, ?_⟩
  refine lcGo_A xs [] (by simpa using hl) hh ?_
  refine ⟨wipeE_length _ _, ?_⟩
  rw [unw_wipe ok]
  simpa using q
theorem Ev.lcA1 {k : Nat} {xs : List α} (hi : Iv wi env (xs.map h) env1) (hk : env1[k]? = some .un) (hl : xs.length < sizeLine) (ht : ∀ x ∈ xs, Tv wt (env1.set k (.im (h x))) (c x) (env1.set k (.im (h x)))) (he : ∀ x ∈ xs, c x = true → Ev we (env1.set k (.im (h x))) (.sh (f x)) (env1.set k (.im (h x)))) :
    Ev (wLc wi (gN k) wt we [k]) env (.fr (.lst ((xs.filter c).map f))) env1 := by
  have lt : k < env1.length := (List.getElem?_eq_some_iff.mp hk).1
  have ew : wipeE env1 [k] = env1 := by
    have e : env1[k] = .un := (List.getElem?_eq_some_iff.mp hk).2
    show env1.set k .un = env1
    rw [← e, List.set_getElem_self]
  have ok : okW env1 [k] := ⟨List.nodup_cons.mpr ⟨fun h => (nomatch h), List.nodup_nil⟩, fun v hv => by rw [List.mem_singleton.mp hv]; exact ⟨lt, .inl hk⟩⟩
  refine .lcA hi ok hl fun x hx P hP => ?_
  rw [ew] at hP ⊢
  refine ⟨lt, hP _ (ht x hx) (he x hx) ?_⟩
  show (env1.set k (.im (h x))).set k .un = env1
  rw [List.set_set]
  exact ew
theorem blsD_of {g : α → Bool} : ∀ xs : List α, blsD (xs.map fun x => D.bl (g x)) = some (xs.map g)
  | [] => rfl
  | x :: xs => by
    show (blsD (xs.map fun x => D.bl (g x))).map (g x :: ·) = _
    rw [blsD_of xs]
    rfl
theorem all_id {g : α → Bool} : ∀ xs : List α, (xs.map g).all id = xs.all g
  | [] => rfl
  | x :: xs => by
    show (id (g x) && (xs.map g).all id) = (g x && xs.all g)
    rw [all_id xs]
    rfl
/-- all([.. for ..]) -/
theorem Ev.allA {xs : List α} {g : α → Bool} (e : Ev we env (.fr (.lst (xs.map fun x => D.bl (g x)))) env1) : Ev (wCB fAll (wCons we wNil)) env (.sh (.bl (xs.all g))) env1 := by
  have a := Ev.all e (blsD_of xs)
  rw [all_id] at a
  exact a
theorem Ev.sumA {xs : List α} {g : α → Int} (e : Ev we env (.fr (.lst (xs.map fun x => D.int (g x)))) env1) (hi : intsD (xs.map fun x => D.int (g x)) = some (xs.map g)) : Ev (wCB fSum (wCons we wNil)) env (.sh (.int (xs.map g).sum)) env1 := .cb (rs := [.sh (.lst (xs.map fun x => D.int (g x)))]) (ds := [.lst (xs.map fun x => D.int (g x))]) (.fr e .nil) rfl fun Q q => by
  show (match intsD (xs.map fun x => D.int (g x)) with | some ns => Q (.sh (.int ns.sum)) | none => False)
  rw [hi]
  exact q
theorem fil_true (xs : List α) : xs.filter (fun _ => true) = xs := List.filter_eq_self.mpr fun _ _ => rfl
theorem Iv.zip {a b : D} {xs ys : List D} (ha : Av wr env [.sh a, .sh b] env1) (h1 : lsT a = some xs) (h2 : lsT b = some ys) : Iv (wZip wr) env (zipD xs ys) env1 := fun Q q => by
  refine ha _ ?_
  show (match lsT a, lsT b with | some xs, some ys => Q (zipD xs ys) env1 | _, _ => False)
  rw [h1, h2]
  exact q
theorem zipD_map {β : Type} {f : α → D} {g : β → D} : ∀ (xs : List α) (ys : List β), zipD (xs.map f) (ys.map g) = (xs.zip ys).map fun p => .tup [f p.1, g p.2]
  | [], _ => rfl
  | _ :: _, [] => rfl
  | x :: xs, y :: ys => by
    show D.tup [f x, g y] :: zipD (xs.map f) (ys.map g) = _
    rw [zipD_map xs ys]
    rfl
theorem Ev.chain {g g' : Int → Int → Bool} {i j k : Int} (ha : Ev wa env (.sh (.int i)) env1) (hb : Ev wb env1 (.sh (.int j)) env2) (hc : Ev wcc env2 (.sh (.int k)) env2) : Ev (wChain g g' wa wb wcc) env (.sh (.bl (g i j && g' j k))) env2 := fun Q q => by
  refine ha _ (hb _ ?_)
  show (if g i j = true then wcc env2 fun rc env3 => (match pk env3 rc with | some (.int k) => Q (.sh (.bl (g' j k))) env3 | _ => False) else Q (.sh (.bl false)) env2)
  cases hg : g i j with
  | true =>
    rw [if_pos rfl]
    rw [hg] at q
    exact hc _ q
  | false =>
    rw [if_neg Bool.false_ne_true]
    rw [hg] at q
    exact q
theorem Ev.eqS {own : Str → Option Str} {n : Nat} {x y : Str} (ha : Ev wa env (.sh (.str x)) env1) (hb : Ev wb env1 (.sh (.str y)) env2) : Ev (wEq own n wa wb) env (.sh (.bl (decide (x = y)))) env2 :=
  Ev.eqX (b := decide (x = y)) ha hb rfl rfl (fun h => nomatch h) (fun h => nomatch h) (fun v w hv hw => by cases hv; cases hw; rfl) (eqN_up (n := 0) ⟨_, _, rfl, rfl, (by first | rfl | (simp only [eqV]; exact (beq_eq_decide ..).symm) | (simp only [eqV]; rw [Bool.eq_iff_iff]; simp))⟩ (Nat.zero_le _))
/-- xs == [] -/
theorem Ev.eqL0 {own : Str → Option Str} {n : Nat} {ra : R} {xs : List D} {t : Bool} (ha : Ev wa env ra env1) (pa : pkT env1 ra = some (.lst xs, t)) : Ev (wEq own (n + 1) wa (wLst wNil)) env (.sh (.bl (decide (xs = [])))) env1 :=
  Ev.eqX (b := decide (xs = [])) (s := t) ha (Ev.lst Av.nil fun _ q => q) pa rfl (fun h => nomatch h) (fun h => nomatch h) (fun v w hv hw => by cases hv)
    (eqN_up (n := 1) (.inr (.inl ⟨xs, [], rfl, rfl, by cases xs with | nil => exact .nil | cons a l => exact .r⟩)) (by omega))
theorem Iv.here {ds : List D} : Iv (fun env Q => Q ds env) env ds env := fun Q q => q
theorem Ev.leI {m n : Int} (ha : Ev wa env (.sh (.int m)) env1) (hb : Ev wb env1 (.sh (.int n)) env2) : Ev (wB fLt wa wb) env (.sh (.bl (decide (m < n)))) env2 := Ev.B ha hb rfl rfl fun _ q => q
theorem cons_w2 {Q : List R → EnvD → Prop} (h : wa env fun r e => wr e fun rs e2 => Q (r.hold :: rs) e2) : wCons wa wr env Q := h
end
end DL
namespace K28
open PySem PySem.Spec PyProof.Rows L2 DL
theorem zip_pi (ps : List Pp) (xs : List Int) : zipD (psD ps) (iD xs) = (ps.zip xs).map fun p => .tup [pD p.1, .int p.2] := zipD_map ps xs
theorem inB_zip : ∀ (ps : List Pp) (xs : List Int), xs.length = ps.length → ((ps.zip xs).all fun p => decide (p.1.2.2.1 ≤ p.2) && decide (p.2 ≤ p.1.2.2.2)) = inB ps xs
  | [], [], _ => rfl
  | [], _ :: _, h => by cases h
  | _ :: _, [], h => by cases h
  | p :: ps, x :: xs, h => by
    show ((decide (p.2.2.1 ≤ x) && decide (x ≤ p.2.2.2)) && (ps.zip xs).all _) = (decide (p.2.2.1 ≤ x ∧ x ≤ p.2.2.2) && inB ps xs)
    rw [inB_zip ps xs (by simpa using h), Bool.decide_and]
theorem gath_call {wa wb : WE} {ps : List Pp} {d : D} {xs : List Int} {rs : List R} {env env1 env2 : EnvD} {Q : R → EnvD → Prop} {Ed : XD → EnvD → Prop} (h : Av (wCons wa (wCons wb wNil)) env rs env1) (hz : ∀ P : List Ar → EnvD → Prop, P [.im (.lst (psD ps)), .im d] env2 → fzm [false, false] rs env1 P)
    (hd : lsT d = some (iD xs)) (hl : xs.length = ps.length) (h12 : ps.length ≤ 12) (q : ∀ ks, Just (endsP ps) ks → Q (.fr (.dct (dK (ks.map fun k => (k, exs ps xs k))))) env2) : wCall s_gathered [false, false] [] (wCons wa (wCons wb wNil)) Ed env Q := by
  refine h _ (hz _ ⟨List.nodup_nil, rfl, ?_⟩)
  exact ⟨ps, d, xs, rfl, hd, hl, h12, q⟩
theorem just_all {zs ks : List Str} (h : Just zs ks) (g : Str → Bool) : ks.all g = zs.all g := by
  rw [Bool.eq_iff_iff, List.all_eq_true, List.all_eq_true]
  exact ⟨fun a x hx => a x ((h.2.2 x).mpr hx), fun a x hx => a x ((h.2.2 x).mp hx)⟩
theorem just_len {ps : List Pp} {ks : List Str} (h : Just (endsP ps) ks) : ks.length ≤ 2 * ps.length := by
  have := nodup_le h.2.1 (ys := endsP ps) fun s hs => (h.2.2 s).mp hs
  rwa [endsP_len] at this
theorem vals_dK (ks : List Str) (f : Str → Int) : (dK (ks.map fun k => (k, f k))).map (·.2) = ks.map fun k => D.int (f k) := by
  unfold dK
  rw [List.map_map, List.map_map]
  rfl
theorem i_tuple_tup {xs : List D} : i_tuple (.tup xs) = some true := i_tuple_ok (d := .tup xs) rfl
theorem p_are_rounds_by (args : List Sl) (Qd : R → EnvD → Prop) (Ed : XD → EnvD → Prop) (h : s_are_rounds_by args Qd Ed) : b_are_rounds_by (args ++ uns 6) (ends 2 Qd) := by
  obtain ⟨ps, xs, rfl, hl, h12, h0, h⟩ := h
  let env : EnvD := [.im (.lst (psD ps)), .im (.tup (iD xs)), .un, .un, .un, .un, .un, .un]
  have lp : lenD (.lst (psD ps)) = some ps.length := by
    show some (psD ps).length = _
    rw [psD, List.length_map]
  have lx : lenD (.tup (iD xs)) = some ps.length := by
    show some (iD xs).length = _
    rw [iD, List.length_map, hl]
  have t1 : Tv (wBl (wNe own0 0 (wCB fLen (wCons (wVar 1) (wNil))) (wCB fLen (wCons (wVar 0) (wNil))))) env (!decide ((ps.length : Int) = ps.length)) env :=
    .bl (.neI (.len (d := .tup (iD xs)) (.var (k := 1) rfl) rfl lx) (.len (d := .lst (psD ps)) (.var (k := 0) rfl) rfl lp))
  have e2 : Ev (wLc (wIt (wVar 1)) (gN 2) (wYes) (wCall s_is_from [false, false] [] (wCons (wVar 2) (wCons (wC (.int 0)) (wNil))) (fun _ _ => False)) [2]) env (.fr (.lst ((xs.filter fun _ => true).map fun _ => D.bl true))) env :=
    .lcA1 (h := fun x => D.int x) (f := fun _ => D.bl true) (c := fun _ => true) (.itS (d := .tup (iD xs)) (.var (k := 1) rfl) rfl) rfl (small_line (by omega)) (fun x hx => Tv.yes) fun x hx _ => .call (as := [.im (.int x), .im (.int 0)]) (.sh (.var (k := 2) rfl) (.sh .cst .nil)) (fun _ q => q) List.nodup_nil rfl fun Q q => ⟨.int x, 0, rfl, rfl, by
      rw [show isFrom (.int x) 0 = true from decide_eq_true (h0 x hx)]
      exact q⟩
  rw [fil_true] at e2
  have a2 := Ev.allA e2
  rw [List.all_eq_true.mpr (fun _ _ => rfl)] at a2
  have t : Tv (wOrT (wNotT (wBl (wIsi i_tuple (wVar 1)))) (wOrT (wBl (wNe own0 0 (wCB fLen (wCons (wVar 1) (wNil))) (wCB fLen (wCons (wVar 0) (wNil))))) (wNotT (wBl (wCB fAll (wCons (wLc (wIt (wVar 1)) (gN 2) (wYes) (wCall s_is_from [false, false] [] (wCons (wVar 2) (wCons (wC (.int 0)) (wNil))) (fun _ _ => False)) [2]) (wNil))))))) env false env := by
    rw [decide_eq_true rfl] at t1
    exact .orF (.not (b := true) (.bl (.isi (.var (k := 1) rfl) rfl i_tuple_tup))) (.orF t1 (.not (b := true) (.bl a2)))
  refine seq_if_F t ?_
  have e3 : Ev (wLc (wZip (wCons (wVar 0) (wCons (wVar 1) (wNil)))) (gT 2 (gsCons (gT 4 (gsCons (gN 3) (gsCons (gN 4) (gsCons (gN 5) (gsCons (gN 6) (gsNil)))))) (gsCons (gN 2) (gsNil)))) (wYes) (wChain (fun i j => decide (i ≤ j)) (fun i j => decide (i ≤ j)) (wVar 5) (wVar 2) (wVar 6)) [2, 3, 4, 5, 6]) env (.fr (.lst (((ps.zip xs).filter fun _ => true).map fun p => D.bl (decide (p.1.2.2.1 ≤ p.2) && decide (p.2 ≤ p.1.2.2.2))))) env := by
    refine .lcA (h := fun p : Pp × Int => .tup [pD p.1, .int p.2]) (c := fun _ => true) (by rw [← zip_pi]; exact .zip (.sh (.var (k := 0) rfl) (.sh (.var (k := 1) rfl) .nil)) rfl rfl) (okWs (by decide) fun v hv => ?_) (by rw [List.length_zip, hl, Nat.min_self]; exact small_line (by omega)) fun p hp P hP => ?_
    · have : v = 2 ∨ v = 3 ∨ v = 4 ∨ v = 5 ∨ v = 6 := by simpa using hv
      rcases this with rfl | rfl | rfl | rfl | rfl <;> exact .inl rfl
    · obtain ⟨⟨a, b, l, w⟩, x⟩ := p
      refine ⟨rfl, rfl, (by decide : 3 < 8), (by decide : 4 < 8), (by decide : 5 < 8), (by decide : 6 < 8), rfl, (by decide : 2 < 8), rfl, hP _ Tv.yes (fun _ => ?_) rfl⟩
      exact .chain (g := fun i j => decide (i ≤ j)) (g' := fun i j => decide (i ≤ j)) (i := l) (j := x) (k := w) (.var (k := 5) rfl) (.var (k := 2) rfl) (.var (k := 6) rfl)
  rw [fil_true] at e3
  have a3 := Ev.allA e3
  rw [inB_zip ps xs hl] at a3
  cases hb : inB ps xs with
  | false =>
    rw [hb] at a3
    refine seq_if_T (.not (b := false) (.bl a3)) (ret_sh .cst ?_)
    have : validB ps xs = false := by unfold validB; rw [hb]; rfl
    rw [this] at h
    exact h
  | true =>
    rw [hb] at a3
    refine seq_if_F (.not (b := true) (.bl a3)) ?_
    have e4 : Ev (wCB fAll (wCons (wLc (wVals (wCall s_gathered [false, false] [] (wCons (wVar 0) (wCons (wVar 1) (wNil))) (fun _ _ => False))) (gN 7) (wYes) (wEq own0 0 (wVar 7) (wC (.int 0))) [7]) (wNil))) env (.sh (.bl (evenB ps xs))) env := fun Q q => by
      refine gath_call (Ed := fun _ _ => False) (ps := ps) (d := .tup (iD xs)) (xs := xs) (.sh (.var (k := 0) rfl) (.sh (.var (k := 1) rfl) .nil)) (fun _ q => q) rfl hl h12 fun ks hk => ?_
      have e5 : Ev (wLc (fun env Q => Q ((dK (ks.map fun k => (k, exs ps xs k))).map (·.2)) env) (gN 7) (wYes) (wEq own0 0 (wVar 7) (wC (.int 0))) [7]) env (.fr (.lst ((ks.filter fun _ => true).map fun k => D.bl (decide (exs ps xs k = 0))))) env :=
        .lcA1 (h := fun k => D.int (exs ps xs k)) (c := fun _ => true) (by rw [vals_dK]; exact Iv.here) rfl (by have := just_len hk; exact small_line (by omega)) (fun _ _ => Tv.yes) fun k _ _ => .eqI (.var (k := 7) rfl) .cst
      rw [fil_true] at e5
      have a5 := Ev.allA e5
      rw [just_all hk] at a5
      exact a5 Q q
    refine ret_sh e4 ?_
    have : validB ps xs = evenB ps xs := by unfold validB; rw [hb]; rfl
    rw [this] at h
    exact h
end K28
namespace K28
open PySem PySem.Spec PyProof.Rows L2 DL
def inS (ps : List Pp) (xs : List Int) (k : Str) : Int := (((ps.zip xs).filter fun p => decide (p.1.2.1 = k)).map (·.2)).sum
def outS (ps : List Pp) (xs : List Int) (k : Str) : Int := (((ps.zip xs).filter fun p => decide (p.1.1 = k)).map (·.2)).sum
theorem exs_sums (k : Str) : ∀ (ps : List Pp) (xs : List Int), exs ps xs k = inS ps xs k - outS ps xs k
  | [], _ => rfl
  | _ :: _, [] => rfl
  | p :: ps, x :: xs => by
    show (if p.2.1 = k then x else 0) - (if p.1 = k then x else 0) + exs ps xs k = _
    rw [exs_sums k ps xs]
    unfold inS outS
    rw [List.zip_cons_cons, List.filter_cons, List.filter_cons]
    by_cases h1 : p.2.1 = k <;> by_cases h2 : p.1 = k <;> simp [h1, h2] <;> omega
theorem sum_zip {wt : WT} {ps : List Pp} {xs : List Int} {g : Pp → Str} {k : Str} {s2 s3 : Sl} (hl : xs.length = ps.length) (h12 : ps.length ≤ 12)
    (ht : ∀ (p : Pp) (x : Int), Tv wt [.im (.lst (psD ps)), .im (.tup (iD xs)), s2, s3, .im (pD p), .im (.int x)] (decide (g p = k)) [.im (.lst (psD ps)), .im (.tup (iD xs)), s2, s3, .im (pD p), .im (.int x)]) :
    Ev (wCB fSum (wCons (wLc (wZip (wCons (wVar 0) (wCons (wVar 1) (wNil)))) (gT 2 (gsCons (gN 4) (gsCons (gN 5) (gsNil)))) wt (wVar 5) [4, 5]) (wNil))) [.im (.lst (psD ps)), .im (.tup (iD xs)), s2, s3, .un, .un] (.sh (.int (((ps.zip xs).filter fun p => decide (g p.1 = k)).map (·.2)).sum)) [.im (.lst (psD ps)), .im (.tup (iD xs)), s2, s3, .un, .un] := by
  refine .sum (ds := ((ps.zip xs).filter fun p => decide (g p.1 = k)).map fun p => D.int p.2) (.lcA (h := fun p : Pp × Int => .tup [pD p.1, .int p.2]) (by rw [← zip_pi]; exact .zip (.sh (.var (k := 0) rfl) (.sh (.var (k := 1) rfl) .nil)) rfl rfl) (okWs (by decide) fun v hv => ?_) (by rw [List.length_zip, hl, Nat.min_self]; exact small_line (by omega)) fun p hp P hP => ?_) (intsD_of _ _)
  · have : v = 4 ∨ v = 5 := by simpa using hv
    rcases this with rfl | rfl <;> exact .inl rfl
  · refine ⟨rfl, (by decide : 4 < 6), (by decide : 5 < 6), rfl, hP _ (ht p.1 p.2) (fun _ => .var (k := 5) rfl) rfl⟩
theorem even_go {ps : List Pp} {xs : List Int} {Qd : R → EnvD → Prop} (hl : xs.length = ps.length) (h12 : ps.length ≤ 12) : ∀ (ks : List Str) (s2 s3 : Sl), (Qd (.sh (.bl (ks.all fun k => decide (exs ps xs k = 0)))) [.im (.lst (psD ps)), .im (.tup (iD xs))]) →
    forGo (gN 2) (sSeq (sSet 3 (wCB fSum (wCons (wLc (wZip (wCons (wVar 0) (wCons (wVar 1) (wNil)))) (gT 2 (gsCons (gN 4) (gsCons (gN 5) (gsNil)))) (wBl (wEq own0 0 (wB fIx (wVar 4) (wC (.int 1))) (wVar 2))) (wVar 5) [4, 5]) (wNil)))) (sIf (wBl (wNe own0 0 (wVar 3) (wCB fSum (wCons (wLc (wZip (wCons (wVar 0) (wCons (wVar 1) (wNil)))) (gT 2 (gsCons (gN 4) (gsCons (gN 5) (gsNil)))) (wBl (wEq own0 0 (wB fIx (wVar 4) (wC (.int 0))) (wVar 2))) (wVar 5) [4, 5]) (wNil))))) (sRet (wC (.bl false))) (sNext))) (sDs ks) [.im (.lst (psD ps)), .im (.tup (iD xs)), s2, s3, .un, .un] { ends 2 Qd with nx := fun e => sRet (wC (.bl true)) e (ends 2 Qd) }
  | [], s2, s3, q => q
  | k :: ks, s2, s3, q => by
    refine ⟨(by decide : 2 < 6), ?_⟩
    refine seq_set_sh (env := [.im (.lst (psD ps)), .im (.tup (iD xs)), .im (.str k), s3, .un, .un]) (sum_zip (g := fun p => p.2.1) (k := k) hl h12 fun p x => .bl (.eqS (.ixT (.var (k := 4) rfl) .cst at1) (.var (k := 2) rfl))) (by decide : 3 < 6) ?_
    have e2 := sum_zip (s2 := .im (.str k)) (s3 := .im (.int (inS ps xs k))) (g := fun p => p.1) (k := k) (wt := wBl (wEq own0 0 (wB fIx (wVar 4) (wC (.int 0))) (wVar 2))) hl h12 fun p x => .bl (.eqS (.ixT (.var (k := 4) rfl) .cst at0) (.var (k := 2) rfl))
    have t : Tv (wBl (wNe own0 0 (wVar 3) (wCB fSum (wCons (wLc (wZip (wCons (wVar 0) (wCons (wVar 1) (wNil)))) (gT 2 (gsCons (gN 4) (gsCons (gN 5) (gsNil)))) (wBl (wEq own0 0 (wB fIx (wVar 4) (wC (.int 0))) (wVar 2))) (wVar 5) [4, 5]) (wNil))))) [.im (.lst (psD ps)), .im (.tup (iD xs)), .im (.str k), .im (.int (inS ps xs k)), .un, .un] (!decide (inS ps xs k = outS ps xs k)) [.im (.lst (psD ps)), .im (.tup (iD xs)), .im (.str k), .im (.int (inS ps xs k)), .un, .un] := .bl (.neI (.var (k := 3) rfl) e2)
    by_cases he : inS ps xs k = outS ps xs k
    · rw [decide_eq_true he] at t
      refine if_F t (even_go hl h12 ks _ _ ?_)
      rw [List.all_cons, decide_eq_true (by rw [exs_sums]; omega), Bool.true_and] at q
      exact q
    · rw [decide_eq_false he] at t
      refine if_T t (ret_sh .cst ?_)
      rw [List.all_cons, decide_eq_false (by rw [exs_sums]; omega), Bool.false_and] at q
      exact q
theorem p_law_is_even (args : List Sl) (Qd : R → EnvD → Prop) (Ed : XD → EnvD → Prop) (h : s_law_is_even args Qd Ed) : b_law_is_even (args ++ uns 4) (ends 2 Qd) := by
  obtain ⟨ps, xs, rfl, hl, h12, h⟩ := h
  refine seq_for_w (env := [.im (.lst (psD ps)), .im (.tup (iD xs)), .un, .un, .un, .un]) ?_
  have c : wCall s_law_knots [false] [] (wCons (wVar 0) (wNil)) (fun _ _ => False) [.im (.lst (psD ps)), .im (.tup (iD xs)), .un, .un, .un, .un] fun r e => fz r e fun d e2 => match itemsD d with
      | some ds => forGo (gN 2) (sSeq (sSet 3 (wCB fSum (wCons (wLc (wZip (wCons (wVar 0) (wCons (wVar 1) (wNil)))) (gT 2 (gsCons (gN 4) (gsCons (gN 5) (gsNil)))) (wBl (wEq own0 0 (wB fIx (wVar 4) (wC (.int 1))) (wVar 2))) (wVar 5) [4, 5]) (wNil)))) (sIf (wBl (wNe own0 0 (wVar 3) (wCB fSum (wCons (wLc (wZip (wCons (wVar 0) (wCons (wVar 1) (wNil)))) (gT 2 (gsCons (gN 4) (gsCons (gN 5) (gsNil)))) (wBl (wEq own0 0 (wB fIx (wVar 4) (wC (.int 0))) (wVar 2))) (wVar 5) [4, 5]) (wNil))))) (sRet (wC (.bl false))) (sNext))) ds e2 { ends 2 Qd with nx := fun e => sRet (wC (.bl true)) e (ends 2 Qd) }
      | none => False := by
    refine (Av.sh (.var (k := 0) rfl) .nil : Av (wCons (wVar 0) wNil) _ [.sh (.lst (psD ps))] _) _ ⟨List.nodup_nil, rfl, ?_⟩
    refine ⟨psD ps, rfl, psD_ends ps, by rw [psD, List.length_map]; omega, fun ks hk => ?_⟩
    rw [endsL_psD] at hk
    refine even_go hl h12 ks _ _ ?_
    rw [just_all hk]
    exact h
  exact c
end K28
namespace K28
open PySem PySem.Spec PyProof.Rows L2 DL
def tD (f : List Int) : D := .tup (iD f)
def grow (l w : Int) (fs : List (List Int)) : List (List Int) := fs.flatMap fun one => (upTo l w).map fun a => one ++ [a]
theorem line5 {n : Nat} (h : n ≤ 100000) : n < sizeLine := by rw [sizeLine_eq]; omega
theorem upTo_len (l w : Int) : (upTo l w).length = (w + 1 - l).toNat := by
  unfold upTo
  rw [List.length_map, List.length_range]
theorem grow_len {l w : Int} (h : w ≤ l + 3) : ∀ fs : List (List Int), (grow l w fs).length ≤ 4 * fs.length
  | [] => Nat.le_refl _
  | f :: fs => by
    show (((upTo l w).map fun a => f ++ [a]) ++ grow l w fs).length ≤ _
    have := grow_len h fs
    rw [List.length_append, List.length_map, upTo_len, List.length_cons]
    omega
theorem grow_mem {l w : Int} {fs : List (List Int)} {n : Nat} (h : ∀ f ∈ fs, f.length = n) : ∀ f ∈ grow l w fs, f.length = n + 1 := fun f hf => by
  obtain ⟨g, hg, hf⟩ := List.mem_flatMap.mp hf
  obtain ⟨a, _, rfl⟩ := List.mem_map.mp hf
  rw [List.length_append, h g hg]
  rfl
theorem range_up (l w : Int) : rangeD l (w + 1) = (upTo l w).map D.int := by
  unfold rangeD upTo
  rw [List.map_map]
  rfl
theorem tried_in {De : DEnds} {s0 s1 s2 s3 : Sl} {l w : Int} (h1 : 0 ≤ l ∧ l < 1000) (h2 : w ≤ l + 3) (h3 : 0 ≤ w) : ∀ (fs acc : List (List Int)) (s7 : Sl), acc.length + 4 * fs.length ≤ 100000 → (∀ f ∈ fs, f.length ≤ 10) →
    (∀ s7, De.nx [s0, s1, s2, s3, .im (.int l), .im (.int w), .ow (.lst ((acc ++ grow l w fs).map tD)), s7, .un]) →
    forGo (gN 7) (sSet 6 (wB fAdd (wVar 6) (wLc (wRng2 (wCons (wVar 4) (wCons (wB fAdd (wVar 5) (wC (.int 1))) (wNil)))) (gN 8) (wYes) (wB fAdd (wVar 7) (wTup (wCons (wVar 8) (wNil)))) [8]))) (fs.map tD) [s0, s1, s2, s3, .im (.int l), .im (.int w), .ow (.lst (acc.map tD)), s7, .un] De
  | [], acc, s7, _, _, q => by
    have := q s7
    rw [show acc ++ grow l w [] = acc from List.append_nil _] at this
    exact this
  | f :: fs, acc, s7, hl, hf, q => by
    simp only [List.length_cons] at hl
    refine ⟨(by decide : 7 < 9), ?_⟩
    have e : Ev (wLc (wRng2 (wCons (wVar 4) (wCons (wB fAdd (wVar 5) (wC (.int 1))) (wNil)))) (gN 8) (wYes) (wB fAdd (wVar 7) (wTup (wCons (wVar 8) (wNil)))) [8]) [s0, s1, s2, s3, .im (.int l), .im (.int w), .ow (.lst (acc.map tD)), .im (tD f), .un] (.fr (.lst (((upTo l w).filter fun _ => true).map fun a => tD (f ++ [a])))) [s0, s1, s2, s3, .im (.int l), .im (.int w), .ow (.lst (acc.map tD)), .im (tD f), .un] := by
      refine .lcA1 (h := fun a : Int => D.int a) (c := fun _ => true) (fun Q q => ?_) rfl (line5 (by rw [upTo_len]; omega)) (fun _ _ => Tv.yes) fun a _ _ => ?_
      · refine (Av.sh (.var (k := 4) rfl) (.sh (.add (i := w) (j := 1) (.var (k := 5) rfl) .cst) .nil)) _ ?_
        refine ⟨⟨by omega, by omega, by omega, by omega⟩, ?_⟩
        rw [range_up]
        exact q
      · refine .B (da := tD f) (db := .tup [.int a]) (.var (k := 7) rfl) (.tup (.sh (.var (k := 8) rfl) .nil) fun _ q => q) rfl rfl fun Q q => ?_
        have := hf f List.mem_cons_self
        refine ⟨Nat.le_of_lt (line5 ?_), ?_⟩
        · show (iD f).length + 1 ≤ _
          unfold iD
          rw [List.length_map]
          omega
        · show Q (.sh (.tup (iD f ++ [.int a])))
          have ea : iD f ++ [.int a] = iD (f ++ [a]) := by simp [iD]
          rw [ea]
          exact q
    rw [fil_true] at e
    have g1 : (upTo l w).length ≤ 4 := by rw [upTo_len]; omega
    refine set_fr (d := .lst ((acc ++ (upTo l w).map fun a => f ++ [a]).map tD)) (Ev.B (da := .lst (acc.map tD)) (db := .lst ((upTo l w).map fun a => tD (f ++ [a]))) (.varO (k := 6) rfl) e rfl rfl fun Q q => ?_) (by decide : 6 < 9) ?_
    · refine ⟨Nat.le_of_lt (line5 ?_), ?_⟩
      · rw [List.length_map, List.length_map]
        omega
      · rw [List.map_append, List.map_map] at q
        exact q
    · refine tried_in h1 h2 h3 fs (acc ++ (upTo l w).map fun a => f ++ [a]) _ (by rw [List.length_append, List.length_map]; omega) (fun g hg => hf g (List.mem_cons_of_mem _ hg)) fun s7 => ?_
      have := q s7
      rw [show acc ++ grow l w (f :: fs) = acc ++ ((upTo l w).map fun a => f ++ [a]) ++ grow l w fs from (List.append_assoc ..).symm] at this
      exact this
theorem tried_go {De : DEnds} {s0 : Sl} : ∀ (ps : List Pp) (fs : List (List Int)) (n : Nat) (s1 s2 s3 s4 s5 s6 s7 : Sl), (s1 = .ow (.lst (fs.map tD)) ∨ s1 = .im (.lst (fs.map tD))) → (∀ f ∈ fs, f.length = n) → n + ps.length ≤ 5 → fs.length * 4 ^ ps.length ≤ 1024 → (∀ p ∈ ps, 0 ≤ p.2.2.1 ∧ p.2.2.1 < 1000 ∧ p.2.2.2 ≤ p.2.2.1 + 3 ∧ 0 ≤ p.2.2.2) →
    (∀ s1 s2 s3 s4 s5 s6 s7, (s1 = .ow (.lst ((triedGo ps fs).map tD)) ∨ s1 = .im (.lst ((triedGo ps fs).map tD))) → De.nx [s0, s1, s2, s3, s4, s5, s6, s7, .un]) →
    forGo (gT 4 (gsCons (gN 2) (gsCons (gN 3) (gsCons (gN 4) (gsCons (gN 5) (gsNil)))))) (sSeq (sSet 6 (wLst (wNil))) (sSeq (sFor (wIt (wVar 1)) (gN 7) (sSet 6 (wB fAdd (wVar 6) (wLc (wRng2 (wCons (wVar 4) (wCons (wB fAdd (wVar 5) (wC (.int 1))) (wNil)))) (gN 8) (wYes) (wB fAdd (wVar 7) (wTup (wCons (wVar 8) (wNil)))) [8])))) (sSet 1 (wVar 6)))) (psD ps) [s0, s1, s2, s3, s4, s5, s6, s7, .un] De
  | [], fs, n, s1, s2, s3, s4, s5, s6, s7, h1, _, _, _, _, q => q s1 s2 s3 s4 s5 s6 s7 h1
  | (a, b, l, w) :: ps, fs, n, s1, s2, s3, s4, s5, s6, s7, h1, hn, h5, hk, hp, q => by
    obtain ⟨p1, p2, p3, p4⟩ := hp _ List.mem_cons_self
    simp only [List.length_cons] at h5 hk
    have hk1 : 4 * fs.length * 4 ^ ps.length ≤ 1024 := by
      rw [Nat.pow_succ] at hk
      have : 4 * fs.length * 4 ^ ps.length = fs.length * (4 ^ ps.length * 4) := by
        rw [Nat.mul_comm 4, Nat.mul_assoc, Nat.mul_comm 4 (4 ^ _)]
      omega
    have hf4 : 4 * fs.length ≤ 1024 := Nat.le_trans (Nat.le_mul_of_pos_right _ (Nat.pow_pos (by decide))) hk1
    refine ⟨rfl, (by decide : 2 < 9), (by decide : 3 < 9), (by decide : 4 < 9), (by decide : 5 < 9), rfl, ?_⟩
    refine seq_set_fr (d := .lst []) (env := [s0, s1, .im (.str a), .im (.str b), .im (.int l), .im (.int w), s6, s7, .un]) (.lst .nil fun _ q => q) (by decide : 6 < 9) ?_
    have it : Iv (wIt (wVar 1)) [s0, s1, .im (.str a), .im (.str b), .im (.int l), .im (.int w), .ow (.lst []), s7, .un] (fs.map tD) [s0, .im (.lst (fs.map tD)), .im (.str a), .im (.str b), .im (.int l), .im (.int w), .ow (.lst []), s7, .un] := by
      rcases h1 with rfl | rfl
      · exact .it (d := .lst (fs.map tD)) (.varO (k := 1) rfl) (fun _ q => q) rfl
      · exact .itS (d := .lst (fs.map tD)) (.var (k := 1) rfl) rfl
    refine seq_for it ?_
    refine tried_in ⟨p1, p2⟩ p3 p4 fs [] s7 (by simp; omega) (fun f hf => by rw [hn f hf]; omega) fun s7 => ?_
    rw [List.nil_append]
    refine set_br (env1 := [s0, .im (.lst (fs.map tD)), .im (.str a), .im (.str b), .im (.int l), .im (.int w), .ow (.lst ((grow l w fs).map tD)), s7, .un]) (d := .lst ((grow l w fs).map tD)) (.varO (k := 6) rfl) rfl (by decide : 1 < 9) ?_
    exact tried_go ps (grow l w fs) (n + 1) _ _ _ _ _ _ _ (.inr rfl) (grow_mem hn) (by omega) (Nat.le_trans (Nat.mul_le_mul_right _ (grow_len p3 fs)) hk1) (fun p h => hp p (List.mem_cons_of_mem _ h)) q
theorem p_law_tried (args : List Sl) (Qd : R → EnvD → Prop) (Ed : XD → EnvD → Prop) (h : s_law_tried args Qd Ed) : b_law_tried (args ++ uns 8) (ends 1 Qd) := by
  obtain ⟨ps, rfl, h5, hp, hf, hs⟩ := h
  refine seq_set_fr (d := .lst [.tup []]) (env := [.im (.lst (psD ps)), .un, .un, .un, .un, .un, .un, .un, .un]) (.lst (.sh (.tup .nil fun _ q => q) .nil) fun _ q => q) (by decide : 1 < 9) ?_
  refine seq_for (env := [.im (.lst (psD ps)), .ow (.lst [.tup []]), .un, .un, .un, .un, .un, .un, .un]) (.itS (d := .lst (psD ps)) (.var (k := 0) rfl) rfl) ?_
  have hpow : 4 ^ ps.length ≤ 4 ^ 5 := Nat.pow_le_pow_right (by decide) h5
  refine tried_go ps [[]] 0 (.ow (.lst [.tup []])) _ _ _ _ _ _ (.inl rfl) (fun f hf => by rw [List.mem_singleton.mp hf]; rfl) (by omega) (by
    show 1 * 4 ^ ps.length ≤ 1024
    omega) hp fun s1 s2 s3 s4 s5 s6 s7 h1 => ?_
  rcases h1 with rfl | rfl
  · exact ret_ow (De := ends 1 Qd) (i := 1) (d := .lst ((tried ps).map fun xs => .tup (iD xs))) (env1 := [.im (.lst (psD ps)), .ow (.lst ((triedGo ps [[]]).map tD)), s2, s3, s4, s5, s6, s7, .un]) (.varO rfl) rfl hf
  · exact ret_sh (De := ends 1 Qd) (d := .lst ((tried ps).map fun xs => .tup (iD xs))) (env1 := [.im (.lst (psD ps)), .im (.lst ((triedGo ps [[]]).map tD)), s2, s3, s4, s5, s6, s7, .un]) (.var (k := 1) rfl) hs
end K28
namespace DL
open PySem PySem.Spec PyProof.Rows L2
section
variable {α : Type} {f : α → D}
/-- a dict from texts to what stands for data -/
def dM (f : α → D) (ps : List (Str × α)) : List (Key × D) := ps.map fun p => (.inr p.1, f p.2)
def getM (ps : List (Str × α)) (x : Str) : Option α := (ps.find? fun p => decide (p.1 = x)).map (·.2)
theorem vD_dM (ps : List (Str × α)) (x : Str) : vD (dM f ps) (.inr x) = (getM ps x).map f := by
  unfold vD getM dM
  induction ps with
  | nil => rfl
  | cons p ps ih =>
    simp only [List.map_cons, List.find?_cons]
    by_cases h : p.1 = x
    · simp [h]
    · have h2 : ¬ (Sum.inr p.1 : Key) = .inr x := fun e => h (Sum.inr.inj e)
      simp only [decide_eq_false h, decide_eq_false h2]
      exact ih
theorem getM_some {ps : List (Str × α)} {x : Str} (h : x ∈ ps.map (·.1)) : ∃ v, getM ps x = some v ∧ (x, v) ∈ ps := by
  unfold getM
  obtain ⟨p, hp, e⟩ := List.mem_map.mp h
  have : (ps.find? fun p => decide (p.1 = x)).isSome = true := List.find?_isSome.mpr ⟨p, hp, decide_eq_true e⟩
  obtain ⟨q, hq⟩ := Option.isSome_iff_exists.mp this
  have h1 : q.1 = x := of_decide_eq_true (by simpa using List.find?_some hq)
  refine ⟨q.2, by rw [hq]; rfl, ?_⟩
  rw [← h1]
  exact List.mem_of_find?_eq_some hq
theorem getM_isSome {ps : List (Str × α)} {x : Str} : (getM ps x).isSome = decide (x ∈ ps.map (·.1)) := by
  by_cases h : x ∈ ps.map (·.1)
  · obtain ⟨v, hv, _⟩ := getM_some h
    rw [hv, decide_eq_true h]
    rfl
  · rw [decide_eq_false h]
    unfold getM
    rw [Option.isSome_map]
    cases hq : ps.find? fun p => decide (p.1 = x) with
    | none => rfl
    | some q =>
      have h1 : q.1 = x := of_decide_eq_true (by simpa using List.find?_some hq)
      exact absurd (List.mem_map.mpr ⟨q, List.mem_of_find?_eq_some hq, h1⟩) h
theorem putD_dM {ps : List (Str × α)} {x : Str} {v : α} (h : x ∉ ps.map (·.1)) : putD (dM f ps) (.inr x) (f v) = dM f (ps ++ [(x, v)]) := by
  unfold putD
  rw [if_neg]
  · unfold dM
    rw [List.map_append]
    rfl
  · intro z
    obtain ⟨kv, hk, e⟩ := List.any_eq_true.mp z
    obtain ⟨p, hp, rfl⟩ := List.mem_map.mp hk
    exact h (List.mem_map.mpr ⟨p, hp, Sum.inr.inj (of_decide_eq_true e)⟩)
theorem len_dM {ps : List (Str × α)} : (dM f ps).length = ps.length := List.length_map _
theorem itemsD_dM {ps : List (Str × α)} : itemsD (.dct (dM f ps)) = some ((ps.map (·.1)).map D.str) := by
  show some ((dM f ps).map fun kv => keyD kv.1) = _
  unfold dM
  rw [List.map_map, List.map_map]
  rfl
variable {wt : WT} {wk wv : WE} {env : EnvD} {k : Nat}
/-- the same for every key -/
theorem dcGo_new {v : α} {Q : List (Key × D) → EnvD → Prop} (hu : env[k]? = some .un) : ∀ (ys : List Str) (acc : List (Str × α)), (acc.map (·.1) ++ ys).Nodup → acc.length + ys.length < 1000 →
    (∀ y ∈ ys, Tv wt (env.set k (.im (.str y))) true (env.set k (.im (.str y))) ∧ Ev wk (env.set k (.im (.str y))) (.sh (.str y)) (env.set k (.im (.str y))) ∧ Ev wv (env.set k (.im (.str y))) (.fr (f v)) (env.set k (.im (.str y)))) →
    Q (dM f (acc ++ ys.map fun y => (y, v))) env → dcGo (gN k) wt wk wv [k] (ys.map D.str) (dM f acc) env Q
  | [], acc, _, _, _, q => by simpa [dcGo] using q
  | y :: ys, acc, nd, hl, h, q => by
    obtain ⟨h1, h2, h3⟩ := h y List.mem_cons_self
    have lt : k < env.length := (List.getElem?_eq_some_iff.mp hu).1
    simp only [List.length_cons] at hl
    refine ⟨lt, h1 _ ?_⟩
    refine h2 _ (h3 _ ?_)
    have ny : y ∉ acc.map (·.1) := fun z => (List.nodup_append.mp nd).2.2 y z y List.mem_cons_self rfl
    refine ⟨by rw [len_dM]; exact small_line (by omega), ?_⟩
    rw [putD_dM ny]
    have ew : wipeE (env.set k (.im (.str y))) [k] = env := by
      show (env.set k (.im (.str y))).set k .un = env
      rw [List.set_set]
      have e : env[k] = .un := (List.getElem?_eq_some_iff.mp hu).2
      rw [← e, List.set_getElem_self]
    rw [ew]
    refine dcGo_new hu ys (acc ++ [(y, v)]) ?_ (by simp; omega) (fun z hz => h z (List.mem_cons_of_mem _ hz)) ?_
    · rw [List.map_append, List.append_assoc]
      exact nd
    · rw [List.append_assoc]
      exact q
end
end DL
namespace K28
open PySem PySem.Spec PyProof.Rows L2 DL
theorem Road.nodup {ps : List Pp} {xs : List Int} {bs vs : List Str} {ss : List Stp} (r : Road ps xs bs vs ss) : vs.Nodup := by
  induction r with
  | nil h => exact List.nodup_cons.mpr ⟨(fun z => nomatch z), List.nodup_nil⟩
  | snoc r k n ih => exact List.nodup_cons.mpr ⟨n, ih⟩
theorem Road.len {ps : List Pp} {xs : List Int} {bs vs : List Str} {ss : List Stp} (r : Road ps xs bs vs ss) : vs.length = ss.length + 1 := by
  induction r with
  | nil h => rfl
  | snoc r k n ih => rw [List.length_append, List.length_cons, ih]; rfl
/-- roads while they are gathered -/
structure RI (ps : List Pp) (xs : List Int) (bs : List Str) (rs : List (Str × List Stp)) : Prop where
  nd : (rs.map (·.1)).Nodup
  bg : ∀ b ∈ bs, b ∈ rs.map (·.1)
  road : ∀ r ∈ rs, ∃ vs, Road ps xs bs (r.1 :: vs) r.2 ∧ ∀ v ∈ vs, v ∈ rs.map (·.1)
  sub : ∀ x ∈ rs.map (·.1), x ∈ endsP ps
theorem RI.len {ps : List Pp} {xs : List Int} {bs : List Str} {rs : List (Str × List Stp)} (I : RI ps xs bs rs) : rs.length ≤ 2 * ps.length := by
  have := nodup_le I.nd (ys := endsP ps) I.sub
  rwa [endsP_len, List.length_map] at this
theorem RI.steps {ps : List Pp} {xs : List Int} {bs : List Str} {rs : List (Str × List Stp)} (I : RI ps xs bs rs) {r : Str × List Stp} (h : r ∈ rs) : r.2.length ≤ 2 * ps.length := by
  obtain ⟨vs, R, hv⟩ := I.road r h
  have := nodup_le R.nodup (ys := endsP ps) fun s hs => by
    rcases List.mem_cons.mp hs with rfl | hs
    · exact I.sub _ (List.mem_map_of_mem h)
    · exact I.sub _ (hv s hs)
  rw [endsP_len, R.len] at this
  omega
theorem RI.add {ps : List Pp} {xs : List Int} {bs : List Str} {rs : List (Str × List Stp)} (I : RI ps xs bs rs) {u v : Str} {ss : List Stp} {s : Stp} (hu : (u, ss) ∈ rs) (k : StepOk ps xs u s v) (n : v ∉ rs.map (·.1)) (hv : v ∈ endsP ps) : RI ps xs bs (rs ++ [(v, ss ++ [s])]) := by
  have up : ∀ x, x ∈ rs.map (·.1) → x ∈ (rs ++ [(v, ss ++ [s])]).map (·.1) := fun x hx => by
    rw [List.map_append]
    exact List.mem_append_left _ hx
  refine ⟨?_, fun b hb => up _ (I.bg b hb), fun r hr => ?_, fun x hx => ?_⟩
  · rw [List.map_append]
    refine List.nodup_append.mpr ⟨I.nd, List.nodup_cons.mpr ⟨(fun z => nomatch z), List.nodup_nil⟩, fun a ha b hb e => ?_⟩
    rw [List.mem_singleton.mp hb] at e
    exact n (by
      have e2 : a = v := e
      rw [e2] at ha
      exact ha)
  · rcases List.mem_append.mp hr with hr | hr
    · obtain ⟨vs, R, hv⟩ := I.road r hr
      exact ⟨vs, R, fun w hw => up _ (hv w hw)⟩
    · rw [List.mem_singleton.mp hr]
      obtain ⟨vs, R, hv⟩ := I.road _ hu
      refine ⟨u :: vs, .snoc R k fun z => ?_, fun w hw => ?_⟩
      · rcases List.mem_cons.mp z with rfl | z
        · exact n (List.mem_map_of_mem hu)
        · exact n (hv _ z)
      · rcases List.mem_cons.mp hw with rfl | hw
        · exact up _ (List.mem_map_of_mem hu)
        · exact up _ (hv w hw)
  · rw [List.map_append] at hx
    rcases List.mem_append.mp hx with hx | hx
    · exact I.sub x hx
    · rw [List.mem_singleton.mp hx]
      exact hv
abbrev rE (ps : List Pp) (xs : List Int) (bs : List Str) (rs : List (Str × List Stp)) (sp : Int) (s6 s7 s8 s9 s10 s11 s12 s13 s14 s15 : Sl) : EnvD :=
  [.im (.lst (psD ps)), .pm (.lst (iD xs)), .im (.lst (sDs bs)), .ow (.dct (rD rs)), .ow (.lst (sDs (rs.map (·.1)))), .im (.int sp), s6, s7, s8, s9, s10, s11, s12, s13, s14, s15, .un]
theorem rD_dM (rs : List (Str × List Stp)) : rD rs = dM (fun ss => .lst (ss.map stD)) rs := rfl
theorem _root_.DL.Ev.neg {we : WE} {env env1 : EnvD} {i : Int} (h : Ev we env (.sh (.int i)) env1) : Ev (wNeg we) env (.sh (.int (-i))) env1 := fun Q q => h _ q
/-- the step in the middle -/
theorem road_if {ps : List Pp} {xs : List Int} {bs : List Str} {rs : List (Str × List Stp)} {sp way room : Int} {j : Nat} {here one other : Str} {s8 s9 s10 s11 : Sl} {De : DEnds} (h12 : ps.length ≤ 12) (I : RI ps xs bs rs) (hh : here ∈ rs.map (·.1)) (ok : one = here → 0 < room → StepOk ps xs here (j, way, room) other) (oe : other ∈ endsP ps)
    (q : ∀ rs', RI ps xs bs rs' → (∃ l, rs'.map (·.1) = rs.map (·.1) ++ l) → (one = here → 0 < room → other ∈ rs'.map (·.1)) → De.nx (rE ps xs bs rs' sp (.im (.str here)) (.im (.int (j : Nat))) s8 s9 s10 s11 (.im (.str one)) (.im (.str other)) (.im (.int way)) (.im (.int room)))) :
    sIf (wAndT (wBl (wEq own0 0 (wVar 12) (wVar 6))) (wAndT (wBl (wB fGt (wVar 15) (wC (.int 0)))) (wBl (wB (fIn true) (wVar 13) (wVar 3))))) (sSeq (sPut (wB fAdd (wB fIx (wVar 3) (wVar 6)) (wLst (wCons (wTup (wCons (wVar 7) (wCons (wVar 14) (wCons (wVar 15) (wNil))))) (wNil)))) (wVar 3) (wVar 13)) (sDrop (wApp (wVar 4) (wCons (wVar 13) (wNil))))) (sNext)
      (rE ps xs bs rs sp (.im (.str here)) (.im (.int (j : Nat))) s8 s9 s10 s11 (.im (.str one)) (.im (.str other)) (.im (.int way)) (.im (.int room))) De := by
  let env := rE ps xs bs rs sp (.im (.str here)) (.im (.int (j : Nat))) s8 s9 s10 s11 (.im (.str one)) (.im (.str other)) (.im (.int way)) (.im (.int room))
  have ll := I.len
  have same : De.nx env ∨ True := .inr trivial
  have t1 : Tv (wBl (wEq own0 0 (wVar 12) (wVar 6))) env (decide (one = here)) env := .bl (.eqS (.var (k := 12) rfl) (.var (k := 6) rfl))
  by_cases e1 : one = here
  · rw [decide_eq_true e1] at t1
    have t2 : Tv (wBl (wB fGt (wVar 15) (wC (.int 0)))) env (decide (0 < room)) env := .bl (.gtI (.var (k := 15) rfl) .cst)
    by_cases e2 : 0 < room
    · rw [decide_eq_true e2] at t2
      have t3 : Tv (wBl (wB (fIn true) (wVar 13) (wVar 3))) env (!decide (other ∈ rs.map (·.1))) env := .bl (.B (da := .str other) (db := .dct (rD rs)) (.var (k := 13) rfl) (.varO (k := 3) rfl) rfl rfl fun Q q => by
        show Q (.sh (.bl (!(vD (rD rs) (.inr other)).isSome)))
        rw [rD_dM, vD_dM, Option.isSome_map, getM_isSome]
        exact q)
      by_cases e3 : other ∈ rs.map (·.1)
      · rw [decide_eq_true e3] at t3
        exact if_F (.andT t1 (.andT t2 t3)) (q rs I ⟨[], (List.append_nil _).symm⟩ fun _ _ => e3)
      · rw [decide_eq_false e3] at t3
        refine if_T (.andT t1 (.andT t2 t3)) ?_
        obtain ⟨ss, hs, hm⟩ := getM_some hh
        have I' := I.add hm (ok e1 e2) e3 oe
        have sl := I.steps hm
        have ev : Ev (wB fAdd (wB fIx (wVar 3) (wVar 6)) (wLst (wCons (wTup (wCons (wVar 7) (wCons (wVar 14) (wCons (wVar 15) (wNil))))) (wNil)))) env (.fr (.lst ((ss ++ [(j, way, room)]).map stD))) env := by
          refine .B (da := .lst (ss.map stD)) (db := .lst [stD (j, way, room)]) (.B (da := .dct (rD rs)) (db := .str here) (r := .sh (.lst (ss.map stD))) (.varO (k := 3) rfl) (.var (k := 6) rfl) rfl rfl fun Q q => ?_) (.lst (.sh (.tup (.sh (.var (k := 7) rfl) (.sh (.var (k := 14) rfl) (.sh (.var (k := 15) rfl) .nil))) fun _ q => q) .nil) fun _ q => q) rfl rfl fun Q q => ?_
          · show (match vD (rD rs) (.inr here) with | some d => Q (.sh d) | none => False)
            rw [rD_dM, vD_dM, hs]
            exact q
          · refine ⟨Nat.le_of_lt (line5 ?_), ?_⟩
            · rw [List.length_map]
              show ss.length + 1 ≤ _
              have : ss.length ≤ 2 * ps.length := sl
              omega
            · rw [List.map_append] at q
              exact q
        refine seq_of (ev _ ?_)
        show (rD rs).length < sizeLine ∧ sDrop (wApp (wVar 4) (wCons (wVar 13) wNil)) (env.set 3 (.ow (.dct (putD (rD rs) (.inr other) (.lst ((ss ++ [(j, way, room)]).map stD)))))) De
        refine ⟨by rw [rD_dM, len_dM]; exact small_line (by omega), ?_⟩
        have ep : putD (rD rs) (.inr other) (.lst ((ss ++ [(j, way, room)]).map stD)) = rD (rs ++ [(other, ss ++ [(j, way, room)])]) := by
          rw [rD_dM, rD_dM]
          exact putD_dM (f := fun ss : List Stp => .lst (ss.map stD)) e3
        rw [ep]
        have := q _ I' ⟨[other], by rw [List.map_append]; rfl⟩ fun _ _ => by
          rw [List.map_append]
          exact List.mem_append_right _ List.mem_cons_self
        refine app_to (xs := sDs (rs.map (·.1))) (d := .str other) (env1 := env.set 3 (.ow (.dct (rD (rs ++ [(other, ss ++ [(j, way, room)])]))))) rfl (.sh (.var (k := 13) rfl) .nil) rfl (by unfold sDs; rw [List.length_map, List.length_map]; exact small_line (by omega)) ?_
        have es : sDs (rs.map (·.1)) ++ [.str other] = sDs ((rs ++ [(other, ss ++ [(j, way, room)])]).map (·.1)) := by simp [sDs]
        rw [es]
        exact this
    · rw [decide_eq_false e2] at t2
      exact if_F (.andT t1 (.andF t2)) (q rs I ⟨[], (List.append_nil _).symm⟩ fun _ z => absurd z e2)
  · rw [decide_eq_false e1] at t1
    exact if_F (.andF t1) (q rs I ⟨[], (List.append_nil _).symm⟩ fun z => absurd z e1)
end K28
namespace K28
open PySem PySem.Spec PyProof.Rows L2 DL
theorem psD_at {ps : List Pp} {j : Nat} {p : Pp} (h : ps[j]? = some p) : atI (psD ps) (j : Int) = some (pD p) := by
  have lt : j < ps.length := (List.getElem?_eq_some_iff.mp h).1
  have ge : ps[j] = p := (List.getElem?_eq_some_iff.mp h).2
  have l2 : j < (psD ps).length := by simpa [psD] using lt
  rw [atI_at l2]
  simp [psD, ge]
theorem iD_at {xs : List Int} {j : Nat} {x : Int} (h : xs[j]? = some x) : atI (iD xs) (j : Int) = some (.int x) := by
  have lt : j < xs.length := (List.getElem?_eq_some_iff.mp h).1
  have ge : xs[j] = x := (List.getElem?_eq_some_iff.mp h).2
  have l2 : j < (iD xs).length := by simpa [iD] using lt
  rw [atI_at l2]
  simp [iD, ge]
def bIn : WS := sIf (wAndT (wBl (wEq own0 0 (wVar 12) (wVar 6))) (wAndT (wBl (wB fGt (wVar 15) (wC (.int 0)))) (wBl (wB (fIn true) (wVar 13) (wVar 3))))) (sSeq (sPut (wB fAdd (wB fIx (wVar 3) (wVar 6)) (wLst (wCons (wTup (wCons (wVar 7) (wCons (wVar 14) (wCons (wVar 15) (wNil))))) (wNil)))) (wVar 3) (wVar 13)) (sDrop (wApp (wVar 4) (wCons (wVar 13) (wNil))))) (sNext)
def bPipe : WS := sFor (wIt (wTup (wCons (wTup (wCons (wVar 8) (wCons (wVar 9) (wCons (wC (.int 1)) (wCons (wB fSub (wVar 11) (wB fIx (wVar 1) (wVar 7))) (wNil)))))) (wCons (wTup (wCons (wVar 9) (wCons (wVar 8) (wCons (wNeg (wC (.int 1))) (wCons (wB fSub (wB fIx (wVar 1) (wVar 7)) (wVar 10)) (wNil)))))) (wNil))))) (gT 4 (gsCons (gN 12) (gsCons (gN 13) (gsCons (gN 14) (gsCons (gN 15) (gsNil)))))) bIn
theorem pipe_go {ps : List Pp} {xs : List Int} {bs : List Str} {sp : Int} {here : Str} {De : DEnds} (h12 : ps.length ≤ 12) (hx : xs.length = ps.length) : ∀ (qs pre : List Pp) (rs : List (Str × List Stp)) (s7 s8 s9 s10 s11 s12 s13 s14 s15 : Sl), ps = pre ++ qs → RI ps xs bs rs → here ∈ rs.map (·.1) → (∀ s v, s.1 < pre.length → StepOk ps xs here s v → v ∈ rs.map (·.1)) →
    (∀ rs' s7 s8 s9 s10 s11 s12 s13 s14 s15, RI ps xs bs rs' → (∃ l, rs'.map (·.1) = rs.map (·.1) ++ l) → (∀ s v, StepOk ps xs here s v → v ∈ rs'.map (·.1)) → De.nx (rE ps xs bs rs' sp (.im (.str here)) s7 s8 s9 s10 s11 s12 s13 s14 s15)) →
    forGo (gT 2 (gsCons (gN 7) (gsCons (gT 4 (gsCons (gN 8) (gsCons (gN 9) (gsCons (gN 10) (gsCons (gN 11) (gsNil)))))) (gsNil)))) bPipe (numbered pre.length (psD qs)) (rE ps xs bs rs sp (.im (.str here)) s7 s8 s9 s10 s11 s12 s13 s14 s15) De
  | [], pre, rs, s7, s8, s9, s10, s11, s12, s13, s14, s15, hp, I, hh, hd, q => q rs _ _ _ _ _ _ _ _ _ I ⟨[], (List.append_nil _).symm⟩ fun s v k => hd s v (by
      obtain ⟨a, b, l, w, x, h1, _⟩ := k
      have := (List.getElem?_eq_some_iff.mp h1).1
      rw [hp, List.append_nil] at this
      exact this) k
  | (a, b, l, w) :: qs, pre, rs, s7, s8, s9, s10, s11, s12, s13, s14, s15, hp, I, hh, hd, q => by
    have hj : ps[pre.length]? = some (a, b, l, w) := by rw [hp, List.getElem?_append_right (Nat.le_refl _), Nat.sub_self]; rfl
    have lj : pre.length < xs.length := by rw [hx]; exact (List.getElem?_eq_some_iff.mp hj).1
    obtain ⟨x, hxj⟩ : ∃ x, xs[pre.length]? = some x := ⟨_, List.getElem?_eq_getElem lj⟩
    have me := mem_endsP (List.mem_of_getElem? hj)
    refine ⟨rfl, (by decide : 7 < 17), rfl, (by decide : 8 < 17), (by decide : 9 < 17), (by decide : 10 < 17), (by decide : 11 < 17), rfl, rfl, ?_⟩
    let env := rE ps xs bs rs sp (.im (.str here)) (.im (.int (pre.length : Nat))) (.im (.str a)) (.im (.str b)) (.im (.int l)) (.im (.int w)) s12 s13 s14 s15
    have ex : Ev (wB fIx (wVar 1) (wVar 7)) env (.sh (.int x)) env := .ixL (xs := iD xs) (.varP (k := 1) rfl) (.var (k := 7) rfl) rfl (iD_at hxj)
    have it : Iv (wIt (wTup (wCons (wTup (wCons (wVar 8) (wCons (wVar 9) (wCons (wC (.int 1)) (wCons (wB fSub (wVar 11) (wB fIx (wVar 1) (wVar 7))) (wNil)))))) (wCons (wTup (wCons (wVar 9) (wCons (wVar 8) (wCons (wNeg (wC (.int 1))) (wCons (wB fSub (wB fIx (wVar 1) (wVar 7)) (wVar 10)) (wNil)))))) (wNil))))) env [.tup [.str a, .str b, .int 1, .int (w - x)], .tup [.str b, .str a, .int (-1), .int (x - l)]] env :=
      .itS (.tup (.sh (.tup (.sh (.var (k := 8) rfl) (.sh (.var (k := 9) rfl) (.sh .cst (.sh (.sub (.var (k := 11) rfl) ex) .nil)))) fun _ q => q) (.sh (.tup (.sh (.var (k := 9) rfl) (.sh (.var (k := 8) rfl) (.sh (.neg .cst) (.sh (.sub ex (.var (k := 10) rfl)) .nil)))) fun _ q => q) .nil)) fun _ q => q) rfl
    refine for_of it ?_
    refine ⟨rfl, (by decide : 12 < 17), (by decide : 13 < 17), (by decide : 14 < 17), (by decide : 15 < 17), rfl, ?_⟩
    refine road_if (ps := ps) (xs := xs) (bs := bs) (rs := rs) (sp := sp) (j := pre.length) (here := here) (one := a) (other := b) (way := 1) (room := w - x) h12 I hh (fun e h => ⟨a, b, l, w, x, hj, hxj, .inl ⟨e.symm, rfl, rfl, rfl, h⟩⟩) me.2 fun rs1 I1 ⟨l1, e1⟩ k1 => ?_
    have hh1 : here ∈ rs1.map (·.1) := by rw [e1]; exact List.mem_append_left _ hh
    refine ⟨rfl, (by decide : 12 < 17), (by decide : 13 < 17), (by decide : 14 < 17), (by decide : 15 < 17), rfl, ?_⟩
    refine road_if (ps := ps) (xs := xs) (bs := bs) (rs := rs1) (sp := sp) (j := pre.length) (here := here) (one := b) (other := a) (way := -1) (room := x - l) h12 I1 hh1 (fun e h => ⟨a, b, l, w, x, hj, hxj, .inr ⟨e.symm, rfl, rfl, rfl, h⟩⟩) me.1 fun rs2 I2 ⟨l2, e2⟩ k2 => ?_
    have up : ∀ v, v ∈ rs1.map (·.1) → v ∈ rs2.map (·.1) := fun v hv => by rw [e2]; exact List.mem_append_left _ hv
    have up0 : ∀ v, v ∈ rs.map (·.1) → v ∈ rs2.map (·.1) := fun v hv => up v (by rw [e1]; exact List.mem_append_left _ hv)
    have ln : (pre ++ [(a, b, l, w)]).length = pre.length + 1 := by rw [List.length_append]; rfl
    have := pipe_go h12 hx qs (pre ++ [(a, b, l, w)]) rs2 (.im (.int (pre.length : Nat))) (.im (.str a)) (.im (.str b)) (.im (.int l)) (.im (.int w)) (.im (.str b)) (.im (.str a)) (.im (.int (-1))) (.im (.int (x - l))) (by rw [hp, List.append_assoc]; rfl) I2 (up0 _ hh) (fun s v hs k => by
      rw [ln] at hs
      by_cases hs2 : s.1 < pre.length
      · exact up0 _ (hd s v hs2 k)
      · have es : s.1 = pre.length := by omega
        obtain ⟨a', b', l', w', x', h1, h2, h3⟩ := k
        rw [es, hj] at h1
        rw [es, hxj] at h2
        cases h1
        cases h2
        rcases h3 with ⟨u1, u2, _, _, u5⟩ | ⟨u1, u2, _, _, u5⟩
        · rw [u2]
          exact up _ (k1 u1.symm u5)
        · rw [u2]
          exact k2 u1.symm u5) fun rs' s7 s8 s9 s10 s11 s12 s13 s14 s15 I' ⟨l', e'⟩ k' => q rs' _ _ _ _ _ _ _ _ _ I' ⟨l1 ++ l2 ++ l', by rw [e', e2, e1, List.append_assoc, List.append_assoc, List.append_assoc]⟩ k'
    rw [ln] at this
    exact this
def bLine : WS := sSeq (sSet 6 (wB fIx (wVar 4) (wVar 5))) (sSeq (sAug (fun i j => i + j) 5 (wC (.int 1))) (sFor (wEnum (wCons (wVar 0) (wNil))) (gT 2 (gsCons (gN 7) (gsCons (gT 4 (gsCons (gN 8) (gsCons (gN 9) (gsCons (gN 10) (gsCons (gN 11) (gsNil)))))) (gsNil)))) bPipe))
theorem line_go {ps : List Pp} {xs : List Int} {bs : List Str} {De : DEnds} (h12 : ps.length ≤ 12) (hx : xs.length = ps.length) (q : ∀ rs sp s6 s7 s8 s9 s10 s11 s12 s13 s14 s15, RoadsOk ps xs bs rs → De.nx (rE ps xs bs rs sp s6 s7 s8 s9 s10 s11 s12 s13 s14 s15)) : ∀ (n sp : Nat) (rs : List (Str × List Stp)) (s6 s7 s8 s9 s10 s11 s12 s13 s14 s15 : Sl), 25 ≤ n + sp → sp ≤ rs.length → RI ps xs bs rs → (∀ u ∈ (rs.map (·.1)).take sp, ∀ s v, StepOk ps xs u s v → v ∈ rs.map (·.1)) →
    whGo (wBl (wB fLt (wVar 5) (wCB fLen (wCons (wVar 4) (wNil))))) bLine n (rE ps xs bs rs (sp : Nat) s6 s7 s8 s9 s10 s11 s12 s13 s14 s15) De
  | 0, sp, rs, s6, s7, s8, s9, s10, s11, s12, s13, s14, s15, hn, hs, I, hd => by
    have := I.len
    omega
  | n + 1, sp, rs, s6, s7, s8, s9, s10, s11, s12, s13, s14, s15, hn, hs, I, hd => by
    let env := rE ps xs bs rs (sp : Nat) s6 s7 s8 s9 s10 s11 s12 s13 s14 s15
    have len : lenD (.lst (sDs (rs.map (·.1)))) = some rs.length := by
      show some (sDs (rs.map (·.1))).length = _
      unfold sDs
      rw [List.length_map, List.length_map]
    have t : Tv (wBl (wB fLt (wVar 5) (wCB fLen (wCons (wVar 4) (wNil))))) env (decide ((sp : Int) < (rs.length : Nat))) env := .bl (.leI (.var (k := 5) rfl) (.len (d := .lst (sDs (rs.map (·.1)))) (.varO (k := 4) rfl) rfl len))
    refine t _ ?_
    by_cases hlt : sp < rs.length
    · rw [if_pos (decide_eq_true (by omega))]
      have hlk : sp < (rs.map (·.1)).length := by rw [List.length_map]; exact hlt
      have hl2 : sp < (sDs (rs.map (·.1))).length := by unfold sDs; rw [List.length_map]; exact hlk
      have at_ : atI (sDs (rs.map (·.1))) (sp : Int) = some (.str (rs.map (·.1))[sp]) := by
        rw [atI_at hl2]
        simp [sDs]
      refine seq_set_sh (.ixL (xs := sDs (rs.map (·.1))) (.varO (k := 4) rfl) (.var (k := 5) rfl) rfl at_) (by decide : 6 < 17) ?_
      refine seq_of (show (5 < 17 ∧ _) from ⟨by decide, ?_⟩)
      have en : Iv (wEnum (wCons (wVar 0) (wNil))) (rE ps xs bs rs ((sp : Int) + 1) (.im (.str (rs.map (·.1))[sp])) s7 s8 s9 s10 s11 s12 s13 s14 s15) (DL.numbered 0 (psD ps)) (rE ps xs bs rs ((sp : Int) + 1) (.im (.str (rs.map (·.1))[sp])) s7 s8 s9 s10 s11 s12 s13 s14 s15) := fun Q q => q
      refine for_of en ?_
      refine pipe_go h12 hx ps [] rs _ _ _ _ _ _ _ _ _ rfl I (List.getElem_mem hlk) (fun s v hs => absurd hs (Nat.not_lt_zero _)) fun rs' s7 s8 s9 s10 s11 s12 s13 s14 s15 I' ⟨l', e'⟩ k' => ?_
      have := line_go h12 hx q n (sp + 1) rs' (.im (.str (rs.map (·.1))[sp])) s7 s8 s9 s10 s11 s12 s13 s14 s15 (by omega) (by
        have := congrArg List.length e'
        rw [List.length_append, List.length_map, List.length_map] at this
        omega) I' fun u hu s v k => by
          rw [e', List.take_append_of_le_length (by omega), List.take_succ_eq_append_getElem hlk] at hu
          rcases List.mem_append.mp hu with hu | hu
          · rw [e']
            exact List.mem_append_left _ (hd u hu s v k)
          · rw [List.mem_singleton.mp hu] at k
            exact k' s v k
      exact this
    · rw [if_neg (by rw [decide_eq_false (by omega)]; exact Bool.false_ne_true)]
      refine q _ _ _ _ _ _ _ _ _ _ _ _ ⟨I.nd, I.bg, I.road, fun u s v hu k => hd u ?_ s v k⟩
      rw [List.take_of_length_le (by rw [List.length_map]; omega)]
      exact hu
theorem p_roads_from (args : List Sl) (Qd : R → EnvD → Prop) (Ed : XD → EnvD → Prop) (h : s_roads_from args Qd Ed) : b_roads_from (args ++ uns 14) (ends 3 Qd) := by
  obtain ⟨ps, xs, bs, rfl, ⟨gp, h12, h6⟩, hx, nd, hb, h⟩ := h
  have lb : bs.length ≤ 24 := by
    have := nodup_le nd (ys := endsP ps) hb
    rw [endsP_len] at this
    omega
  let rs0 : List (Str × List Stp) := bs.map fun b => (b, [])
  have k0 : rs0.map (·.1) = bs := by
    show (bs.map fun b => (b, ([] : List Stp))).map (·.1) = bs
    rw [List.map_map]
    exact List.map_id' bs
  let env : EnvD := [.im (.lst (psD ps)), .pm (.lst (iD xs)), .im (.lst (sDs bs)), .un, .un, .un, .un, .un, .un, .un, .un, .un, .un, .un, .un, .un, .un]
  have e1 : Ev (wDc (wIt (wVar 2)) (gN 16) (wYes) (wVar 16) (wLst (wNil)) [16]) env (.fr (.dct (rD rs0))) env := fun Q q => by
    refine (.itS (d := .lst (sDs bs)) (.var (k := 2) rfl) rfl : Iv (wIt (wVar 2)) env (sDs bs) env) _ ?_
    have ok : okW env [16] := okW1 (.inl rfl)
    refine ⟨ok, ?_⟩
    refine dcGo_new (f := fun ss : List Stp => .lst (ss.map stD)) (v := []) (k := 16) rfl bs [] (by simpa using nd) (by simp; omega) (fun y hy => ⟨Tv.yes, .var rfl, .lst .nil fun _ q => q⟩) ?_
    exact ⟨rfl, q⟩
  have e2 : Ev (wCB fList (wCons (wVar 2) (wNil))) env (.fr (.lst (sDs bs))) env := .cb (rs := [.sh (.lst (sDs bs))]) (ds := [.lst (sDs bs)]) (.sh (.var (k := 2) rfl) .nil) rfl fun Q q => q
  refine seq_of (show sPar 3 4 _ _ env _ from ?_)
  refine e1 _ (e2 _ ?_)
  refine ⟨(by decide : 3 < 17), (by decide : 4 < 17), (by decide : 5 < 17), ?_⟩
  have I0 : RI ps xs bs rs0 := ⟨by rw [k0]; exact nd, fun b hb2 => by rw [k0]; exact hb2, fun r hr => by
    obtain ⟨b, hb2, rfl⟩ := List.mem_map.mp hr
    exact ⟨[], .nil hb2, fun v hv => (nomatch hv)⟩, fun x hx => by
    rw [k0] at hx
    exact hb x hx⟩
  have w := line_go (ps := ps) (xs := xs) (bs := bs) (De := { ends 3 Qd with nx := fun e => sRet (wVar 3) e (ends 3 Qd) }) h12 hx (fun rs sp s6 s7 s8 s9 s10 s11 s12 s13 s14 s15 ok =>
    ret_ow (De := ends 3 Qd) (i := 3) (d := .dct (rD rs)) (env1 := rE ps xs bs rs sp s6 s7 s8 s9 s10 s11 s12 s13 s14 s15) (.varO rfl) rfl (h rs ok)) 25 0 rs0 .un .un .un .un .un .un .un .un .un .un (by omega) (Nat.zero_le _) I0 (fun u hu => by
      rw [List.take_zero] at hu
      exact (nomatch hu))
  dsimp only [rE] at w
  rw [k0] at w
  exact ⟨25, w⟩
end K28
namespace K28
open PySem PySem.Spec PyProof.Rows L2 DL
/-! ### sums over knots -/
theorem sum_ite {x : Int} {h : Str} : ∀ {S : List Str}, S.Nodup → (S.map fun k => if h = k then x else 0).sum = if h ∈ S then x else 0
  | [], _ => rfl
  | k :: S, nd => by
    have nd2 := List.nodup_cons.mp nd
    rw [List.map_cons, List.sum_cons, sum_ite nd2.2]
    by_cases e : h = k
    · have : h ∉ S := e ▸ nd2.1
      rw [if_pos e, if_neg this, if_pos (by rw [e]; exact List.mem_cons_self)]
      omega
    · rw [if_neg e]
      by_cases m : h ∈ S
      · rw [if_pos m, if_pos (List.mem_cons_of_mem _ m)]
        omega
      · rw [if_neg m, if_neg fun z => (List.mem_cons.mp z).elim e m]
        omega
def cutV : List Pp → List Int → List Str → Int
  | p :: ps, x :: xs, S => (if p.2.1 ∈ S then x else 0) - (if p.1 ∈ S then x else 0) + cutV ps xs S
  | _, _, _ => 0
theorem sum_add (f g : Str → Int) : ∀ S : List Str, (S.map fun k => f k + g k).sum = (S.map f).sum + (S.map g).sum
  | [] => rfl
  | k :: S => by
    simp only [List.map_cons, List.sum_cons]
    rw [sum_add f g S]
    omega
theorem sum_sub (f g : Str → Int) : ∀ S : List Str, (S.map fun k => f k - g k).sum = (S.map f).sum - (S.map g).sum
  | [] => rfl
  | k :: S => by
    simp only [List.map_cons, List.sum_cons]
    rw [sum_sub f g S]
    omega
theorem sum_zero : ∀ S : List Str, (S.map fun _ => (0 : Int)).sum = 0
  | [] => rfl
  | k :: S => by
    simp only [List.map_cons, List.sum_cons]
    rw [sum_zero S]
    rfl
theorem exs_cut {S : List Str} (nd : S.Nodup) : ∀ (ps : List Pp) (xs : List Int), (S.map fun k => exs ps xs k).sum = cutV ps xs S
  | [], _ => sum_zero S
  | _ :: _, [] => sum_zero S
  | p :: ps, x :: xs => by
    show (S.map fun k => (if p.2.1 = k then x else 0) - (if p.1 = k then x else 0) + exs ps xs k).sum = _
    rw [sum_add (fun k => (if p.2.1 = k then x else 0) - (if p.1 = k then x else 0)) (fun k => exs ps xs k), sum_sub (fun k => if p.2.1 = k then x else 0) (fun k => if p.1 = k then x else 0), sum_ite nd, sum_ite nd, exs_cut nd ps xs]
    rfl
theorem cut_all {S : List Str} : ∀ (ps : List Pp) (xs : List Int), (∀ k ∈ endsP ps, k ∈ S) → cutV ps xs S = 0
  | [], _, _ => rfl
  | _ :: _, [], _ => rfl
  | p :: ps, x :: xs, h => by
    have e := mem_endsP (ps := p :: ps) List.mem_cons_self
    show (if p.2.1 ∈ S then x else 0) - (if p.1 ∈ S then x else 0) + cutV ps xs S = 0
    rw [if_pos (h _ e.2), if_pos (h _ e.1), cut_all ps xs fun k hk => h k (List.mem_append_right [p.1, p.2.1] hk)]
    omega
theorem exs_out {k : Str} : ∀ (ps : List Pp) (xs : List Int), k ∉ endsP ps → exs ps xs k = 0
  | [], _, _ => rfl
  | _ :: _, [], _ => rfl
  | p :: ps, x :: xs, h => by
    have e := mem_endsP (ps := p :: ps) List.mem_cons_self
    show (if p.2.1 = k then x else 0) - (if p.1 = k then x else 0) + exs ps xs k = 0
    rw [if_neg (fun z : p.2.1 = k => h (by rw [← z]; exact e.2)), if_neg (fun z : p.1 = k => h (by rw [← z]; exact e.1)), exs_out ps xs fun z => h (List.mem_append_right [p.1, p.2.1] z)]
    omega
theorem even_zero {ps : List Pp} {xs : List Int} (h : evenB ps xs = true) (k : Str) : exs ps xs k = 0 := by
  by_cases m : k ∈ endsP ps
  · exact of_decide_eq_true (List.all_eq_true.mp h k m)
  · exact exs_out ps xs m
theorem sum_nonpos {f : Str → Int} : ∀ {S : List Str}, (∀ k ∈ S, f k ≤ 0) → (S.map f).sum ≤ 0
  | [], _ => Int.le_refl _
  | k :: S, h => by
    rw [List.map_cons, List.sum_cons]
    have := h k List.mem_cons_self
    have := sum_nonpos fun k hk => h k (List.mem_cons_of_mem _ hk)
    omega
theorem sum_nonneg {f : Str → Int} : ∀ {S : List Str}, (∀ k ∈ S, 0 ≤ f k) → 0 ≤ (S.map f).sum
  | [], _ => Int.le_refl _
  | k :: S, h => by
    rw [List.map_cons, List.sum_cons]
    have := h k List.mem_cons_self
    have := sum_nonneg fun k hk => h k (List.mem_cons_of_mem _ hk)
    omega
theorem sum_all0 {f : Str → Int} : ∀ {S : List Str}, (∀ k ∈ S, f k ≤ 0) → (S.map f).sum = 0 → ∀ k ∈ S, f k = 0
  | [], _, _, k, hk => nomatch hk
  | k :: S, h, e, j, hj => by
    rw [List.map_cons, List.sum_cons] at e
    have h1 := h k List.mem_cons_self
    have h2 := sum_nonpos fun k hk => h k (List.mem_cons_of_mem _ hk)
    rcases List.mem_cons.mp hj with rfl | hj
    · omega
    · exact sum_all0 (fun k hk => h k (List.mem_cons_of_mem _ hk)) (by omega) j hj
theorem sum_pos {f : Str → Int} {b : Str} : ∀ {S : List Str}, (∀ k ∈ S, 0 ≤ f k) → b ∈ S → 0 < f b → 0 < (S.map f).sum
  | [], _, hb, _ => nomatch hb
  | k :: S, h, hb, hp => by
    rw [List.map_cons, List.sum_cons]
    have h1 := h k List.mem_cons_self
    have h2 := sum_nonneg fun k hk => h k (List.mem_cons_of_mem _ hk)
    rcases List.mem_cons.mp hb with rfl | hb
    · omega
    · have := sum_pos (fun k hk => h k (List.mem_cons_of_mem _ hk)) hb hp
      omega
theorem sum_lt {f g : Str → Nat} {b : Str} : ∀ {S : List Str}, (∀ k ∈ S, g k ≤ f k) → b ∈ S → g b < f b → (S.map g).sum < (S.map f).sum
  | [], _, hb, _ => nomatch hb
  | k :: S, h, hb, hp => by
    have le : ∀ {T : List Str}, (∀ k ∈ T, g k ≤ f k) → (T.map g).sum ≤ (T.map f).sum := fun {T} => by
      induction T with
      | nil => exact fun _ => Nat.le_refl _
      | cons t T ih =>
        intro hT
        rw [List.map_cons, List.sum_cons, List.map_cons, List.sum_cons]
        exact Nat.add_le_add (hT t List.mem_cons_self) (ih fun k hk => hT k (List.mem_cons_of_mem _ hk))
    rw [List.map_cons, List.sum_cons, List.map_cons, List.sum_cons]
    have h1 := h k List.mem_cons_self
    have h2 := le fun k hk => h k (List.mem_cons_of_mem _ hk)
    rcases List.mem_cons.mp hb with rfl | hb
    · omega
    · have := sum_lt (fun k hk => h k (List.mem_cons_of_mem _ hk)) hb hp
      omega
/-! ### within the bounds -/
theorem inB_iff : ∀ (ps : List Pp) (xs : List Int), inB ps xs = true ↔ xs.length = ps.length ∧ ∀ (i : Nat) (p : Pp) (x : Int), ps[i]? = some p → xs[i]? = some x → p.2.2.1 ≤ x ∧ x ≤ p.2.2.2
  | [], [] => ⟨fun _ => ⟨rfl, fun i p x h => by simp at h⟩, fun _ => rfl⟩
  | [], _ :: _ => ⟨(fun h => nomatch h), (fun h => nomatch h.1)⟩
  | _ :: _, [] => ⟨(fun h => nomatch h), (fun h => nomatch h.1)⟩
  | p :: ps, x :: xs => by
    show (decide (p.2.2.1 ≤ x ∧ x ≤ p.2.2.2) && inB ps xs) = true ↔ _
    rw [Bool.and_eq_true, decide_eq_true_iff, inB_iff ps xs]
    constructor
    · rintro ⟨h1, h2, h3⟩
      refine ⟨by rw [List.length_cons, List.length_cons, h2], fun i q y hq hy => ?_⟩
      cases i with
      | zero =>
        cases hq
        cases hy
        exact h1
      | succ i => exact h3 i q y (by simpa using hq) (by simpa using hy)
    · rintro ⟨h2, h3⟩
      exact ⟨h3 0 p x rfl rfl, by simpa using h2, fun i q y hq hy => h3 (i + 1) q y (by simpa using hq) (by simpa using hy)⟩
theorem inB_len {ps : List Pp} {xs : List Int} (h : inB ps xs = true) : xs.length = ps.length := ((inB_iff ps xs).mp h).1
/-- no way out of S: no other amounts bring more into S -/
theorem cut_le {S : List Str} : ∀ (ps : List Pp) (xs ys : List Int), inB ps xs = true → inB ps ys = true → (∀ (i : Nat) (p : Pp) (x : Int), ps[i]? = some p → xs[i]? = some x → (p.1 ∈ S → p.2.1 ∉ S → ¬ 0 < p.2.2.2 - x) ∧ (p.2.1 ∈ S → p.1 ∉ S → ¬ 0 < x - p.2.2.1)) → cutV ps xs S ≤ cutV ps ys S
  | [], _, _, _, _, _ => Int.le_refl _
  | _ :: _, [], _, h, _, _ => nomatch h
  | _ :: _, _ :: _, [], _, h, _ => nomatch h
  | p :: ps, x :: xs, y :: ys, hx, hy, h => by
    have hx2 : (decide (p.2.2.1 ≤ x ∧ x ≤ p.2.2.2) && inB ps xs) = true := hx
    have hy2 : (decide (p.2.2.1 ≤ y ∧ y ≤ p.2.2.2) && inB ps ys) = true := hy
    rw [Bool.and_eq_true, decide_eq_true_iff] at hx2 hy2
    have ih := cut_le ps xs ys hx2.2 hy2.2 fun i q z hq hz => h (i + 1) q z (by simpa using hq) (by simpa using hz)
    obtain ⟨k1, k2⟩ := h 0 p x rfl rfl
    obtain ⟨⟨a1, a2⟩, _⟩ := hx2
    obtain ⟨⟨b1, b2⟩, _⟩ := hy2
    show (if p.2.1 ∈ S then x else 0) - (if p.1 ∈ S then x else 0) + cutV ps xs S ≤ (if p.2.1 ∈ S then y else 0) - (if p.1 ∈ S then y else 0) + cutV ps ys S
    by_cases m1 : p.2.1 ∈ S
    · by_cases m2 : p.1 ∈ S
      · simp only [m1, m2, if_true]
        omega
      · have := k2 m1 m2
        simp only [m1, m2, if_true, if_false]
        omega
    · by_cases m2 : p.1 ∈ S
      · have := k1 m2 m1
        simp only [m1, m2, if_true, if_false]
        omega
      · simp only [m1, m2, if_false]
        omega
/-! ### pushing along a road -/
def setA (xs : List Int) (i : Nat) (d : Int) : List Int := xs.set i (xs.getD i 0 + d)
def appS (part : Int) : List Stp → List Int → List Int
  | [], xs => xs
  | s :: ss, xs => appS part ss (setA xs s.1 (s.2.1 * part))
theorem setA_len {xs : List Int} {i : Nat} {d : Int} : (setA xs i d).length = xs.length := List.length_set
theorem appS_len {part : Int} : ∀ {ss : List Stp} {xs : List Int}, (appS part ss xs).length = xs.length
  | [], _ => rfl
  | s :: ss, xs => by
    show (appS part ss (setA xs s.1 (s.2.1 * part))).length = _
    rw [appS_len, setA_len]
theorem appS_snoc {part : Int} {s : Stp} : ∀ {ss : List Stp} {xs : List Int}, appS part (ss ++ [s]) xs = setA (appS part ss xs) s.1 (s.2.1 * part)
  | [], _ => rfl
  | t :: ss, xs => appS_snoc (ss := ss)
theorem exs_set {k : Str} {d : Int} : ∀ (ps : List Pp) (xs : List Int) (i : Nat) (p : Pp), xs.length = ps.length → ps[i]? = some p → exs ps (setA xs i d) k = exs ps xs k + ((if p.2.1 = k then d else 0) - (if p.1 = k then d else 0))
  | [], _, _, _, _, h => by simp at h
  | _ :: _, [], _, _, h, _ => nomatch h
  | q :: ps, x :: xs, 0, p, hl, h => by
    cases h
    show (if q.2.1 = k then x + d else 0) - (if q.1 = k then x + d else 0) + exs ps xs k = (if q.2.1 = k then x else 0) - (if q.1 = k then x else 0) + exs ps xs k + _
    by_cases h1 : q.2.1 = k <;> by_cases h2 : q.1 = k <;> simp only [h1, h2, if_true, if_false] <;> omega
  | q :: ps, x :: xs, i + 1, p, hl, h => by
    have ih := exs_set (k := k) (d := d) ps xs i p (by simpa using hl) (by simpa using h)
    show (if q.2.1 = k then x else 0) - (if q.1 = k then x else 0) + exs ps (setA xs i d) k = _
    rw [ih]
    show _ = (if q.2.1 = k then x else 0) - (if q.1 = k then x else 0) + exs ps xs k + _
    omega
/-- where a road begins -/
def Begins (ps : List Pp) (v : Str) (ss : List Stp) (b : Str) : Prop := (ss = [] ∧ v = b) ∨ ∃ s0 t p, ss = s0 :: t ∧ ps[s0.1]? = some p ∧ (if s0.2.1 = 1 then p.1 else p.2.1) = b
theorem Road.app {ps : List Pp} {xs : List Int} {bs : List Str} (hl : xs.length = ps.length) {vs : List Str} {ss : List Stp} (r : Road ps xs bs vs ss) : ∀ v ∈ vs.head?, ∃ b ∈ bs, Begins ps v ss b ∧ ∀ part k, exs ps (appS part ss xs) k = exs ps xs k + ((if v = k then part else 0) - (if b = k then part else 0)) := by
  induction r with
  | nil h =>
    intro v hv
    cases hv
    refine ⟨_, h, .inl ⟨rfl, rfl⟩, fun part k => ?_⟩
    show exs ps xs k = _
    omega
  | @snoc u v vs ss s r k n ih =>
    intro v' hv
    cases hv
    obtain ⟨b, hb, bg, e⟩ := ih u rfl
    obtain ⟨a, c, l, w, x, h1, h2, h3⟩ := k
    refine ⟨b, hb, ?_, fun part k => ?_⟩
    · rcases bg with ⟨rfl, rfl⟩ | ⟨s0, t, p, rfl, h4, h5⟩
      · refine .inr ⟨s, [], _, rfl, h1, ?_⟩
        rcases h3 with ⟨g1, g2, g3, _⟩ | ⟨g1, g2, g3, _⟩
        · rw [if_pos g3, g1]
        · rw [if_neg (by rw [g3]; decide), g1]
      · exact .inr ⟨s0, t ++ [s], p, rfl, h4, h5⟩
    · rw [appS_snoc, exs_set ps _ _ _ (by rw [appS_len]; exact hl) h1, e]
      rcases h3 with ⟨g1, g2, g3, _⟩ | ⟨g1, g2, g3, _⟩
      · rw [g3, Int.one_mul, ← g1, ← g2]
        show exs ps xs k + _ + ((if v = k then part else 0) - (if u = k then part else 0)) = _
        omega
      · rw [g3, ← g1, ← g2]
        have e2 : (-1 : Int) * part = -part := by omega
        rw [e2]
        show exs ps xs k + _ + ((if u = k then -part else 0) - (if v = k then -part else 0)) = _
        by_cases q1 : u = k <;> by_cases q2 : v = k <;> simp only [q1, q2, if_true, if_false] <;> omega
theorem Road.idx {ps : List Pp} {xs : List Int} {bs : List Str} {vs : List Str} {ss : List Stp} (r : Road ps xs bs vs ss) : (ss.map (·.1)).Nodup ∧ ∀ s ∈ ss, (∃ u v, StepOk ps xs u s v) ∧ ∀ p, ps[s.1]? = some p → p.1 ∈ vs ∧ p.2.1 ∈ vs := by
  induction r with
  | nil h => exact ⟨List.nodup_nil, fun s hs => (nomatch hs)⟩
  | @snoc u v vs ss s r k n ih =>
    obtain ⟨ih1, ih2⟩ := ih
    have k0 := k
    obtain ⟨a, c, l, w, x, h1, h2, h3⟩ := k
    refine ⟨?_, fun t ht => ?_⟩
    · rw [List.map_append]
      refine List.nodup_append.mpr ⟨ih1, List.nodup_cons.mpr ⟨(fun z => nomatch z), List.nodup_nil⟩, fun i hi j hj e => ?_⟩
      have hj2 : j = s.1 := List.mem_singleton.mp hj
      obtain ⟨t, ht, et⟩ := List.mem_map.mp hi
      have e3 : t.1 = s.1 := by rw [et, e, hj2]
      obtain ⟨m1, m2⟩ := (ih2 t ht).2 _ (by rw [e3]; exact h1)
      rcases h3 with ⟨g1, g2, g3, _⟩ | ⟨g1, g2, g3, _⟩
      · rw [g2] at n
        exact n m2
      · rw [g2] at n
        exact n m1
    · rcases List.mem_append.mp ht with ht | ht
      · exact ⟨(ih2 t ht).1, fun p hp => ⟨List.mem_cons_of_mem _ ((ih2 t ht).2 p hp).1, List.mem_cons_of_mem _ ((ih2 t ht).2 p hp).2⟩⟩
      · rw [List.mem_singleton.mp ht]
        refine ⟨⟨u, v, k0⟩, fun p hp => ?_⟩
        rw [h1] at hp
        cases hp
        rcases h3 with ⟨g1, g2, g3, _⟩ | ⟨g1, g2, g3, _⟩
        · exact ⟨by rw [← g1]; exact List.mem_cons_of_mem _ List.mem_cons_self, by rw [← g2]; exact List.mem_cons_self⟩
        · exact ⟨by rw [← g2]; exact List.mem_cons_self, by rw [← g1]; exact List.mem_cons_of_mem _ List.mem_cons_self⟩
theorem setA_ne {xs : List Int} {i j : Nat} {d : Int} (h : i ≠ j) : (setA xs i d)[j]? = xs[j]? := List.getElem?_set_ne h
theorem setA_at {xs : List Int} {i : Nat} {d x : Int} (h : xs[i]? = some x) : (setA xs i d)[i]? = some (x + d) := by
  unfold setA
  rw [List.getElem?_set_self (List.getElem?_eq_some_iff.mp h).1, List.getD_eq_getElem?_getD, h]
  rfl
theorem appS_inB {ps : List Pp} {part : Int} : ∀ (ss : List Stp) (xs : List Int), inB ps xs = true → (ss.map (·.1)).Nodup → (∀ s ∈ ss, ∃ p x, ps[s.1]? = some p ∧ xs[s.1]? = some x ∧ p.2.2.1 ≤ x + s.2.1 * part ∧ x + s.2.1 * part ≤ p.2.2.2) → inB ps (appS part ss xs) = true
  | [], xs, h, _, _ => h
  | s :: ss, xs, h, nd, hs => by
    have nd2 := List.nodup_cons.mp nd
    obtain ⟨p, x, h1, h2, h3⟩ := hs s List.mem_cons_self
    have hb := (inB_iff ps xs).mp h
    refine appS_inB ss (setA xs s.1 (s.2.1 * part)) ((inB_iff _ _).mpr ⟨by rw [setA_len]; exact hb.1, fun i q y hq hy => ?_⟩) nd2.2 fun t ht => ?_
    · by_cases e : s.1 = i
      · subst e
        rw [setA_at h2] at hy
        rw [h1] at hq
        cases hy
        cases hq
        exact h3
      · rw [setA_ne e] at hy
        exact hb.2 i q y hq hy
    · obtain ⟨q, y, g1, g2, g3⟩ := hs t (List.mem_cons_of_mem _ ht)
      have ne : s.1 ≠ t.1 := fun e => nd2.1 (by
        show s.1 ∈ _
        rw [e]
        exact List.mem_map_of_mem ht)
      exact ⟨q, y, g1, by rw [setA_ne ne]; exact g2, g3⟩
end K28
namespace K28
open PySem PySem.Spec PyProof.Rows L2 DL
def tot (ps : List Pp) (xs : List Int) : Nat := ((endsP ps).map fun k => (exs ps xs k).toNat).sum
theorem even_of {ps : List Pp} {xs : List Int} (h : ∀ k ∈ endsP ps, exs ps xs k ≤ 0) : evenB ps xs = true := by
  have z := exs_cut (S := ddp (endsP ps)) nodup_ddp ps xs
  rw [cut_all ps xs fun k hk => mem_ddp.mpr hk] at z
  exact List.all_eq_true.mpr fun k hk => decide_eq_true (sum_all0 (fun j hj => h j (mem_ddp.mp hj)) z k (mem_ddp.mpr hk))
theorem lot_none {ps : List Pp} {xs : List Int} {bs : List Str} {rs : List (Str × List Stp)} (hb : inB ps xs = true) {b : Str} (hm : b ∈ bs) (hp : 0 < exs ps xs b) (ok : RoadsOk ps xs bs rs) (hno : ∀ k ∈ rs.map (·.1), ¬ exs ps xs k < 0) (ys : List Int) : validB ps ys = false := by
  cases hv : validB ps ys with
  | false => rfl
  | true =>
    unfold validB at hv
    rw [Bool.and_eq_true] at hv
    obtain ⟨hy, he⟩ := hv
    have p1 := sum_pos (f := fun k => exs ps xs k) (fun k hk => by have := hno k hk; omega) (ok.bg b hm) hp
    rw [exs_cut ok.nd] at p1
    have p2 : ((rs.map (·.1)).map fun k => exs ps ys k).sum = 0 := by
      have : (fun k => exs ps ys k) = fun _ => (0 : Int) := funext fun k => even_zero he k
      rw [this]
      exact sum_zero _
    rw [exs_cut ok.nd] at p2
    have p3 := cut_le (S := rs.map (·.1)) ps xs ys hb hy fun i p x hq hx => by
      obtain ⟨a, c, l, w⟩ := p
      exact ⟨fun m1 m2 hr => m2 (ok.cl a (i, 1, w - x) c m1 ⟨a, c, l, w, x, hq, hx, .inl ⟨rfl, rfl, rfl, rfl, hr⟩⟩), fun m1 m2 hr => m2 (ok.cl c (i, -1, x - l) a m1 ⟨a, c, l, w, x, hq, hx, .inr ⟨rfl, rfl, rfl, rfl, hr⟩⟩)⟩
    omega
theorem push_ok {ps : List Pp} {xs : List Int} {bs vs : List Str} {v : Str} {ss : List Stp} (hb : inB ps xs = true) (hbs : ∀ b ∈ bs, 0 < exs ps xs b ∧ b ∈ endsP ps) (r : Road ps xs bs (v :: vs) ss) (hv : exs ps xs v < 0) :
    ∃ s0 t p b, ss = s0 :: t ∧ ps[s0.1]? = some p ∧ (if s0.2.1 = 1 then p.1 else p.2.1) = b ∧ 0 < exs ps xs b ∧ b ∈ endsP ps ∧ (∀ s ∈ ss, 0 < s.2.2 ∧ (s.2.1 = 1 ∨ s.2.1 = -1) ∧ s.1 < ps.length) ∧
      ∀ part, 0 < part → part ≤ exs ps xs b → part ≤ -exs ps xs v → (∀ s ∈ ss, part ≤ s.2.2) → inB ps (appS part ss xs) = true ∧ tot ps (appS part ss xs) < tot ps xs := by
  obtain ⟨b, hm, bg, ap⟩ := r.app (inB_len hb) v rfl
  obtain ⟨nd, st⟩ := r.idx
  obtain ⟨b1, b2⟩ := hbs b hm
  rcases bg with ⟨_, rfl⟩ | ⟨s0, t, p, rfl, h1, h2⟩
  · omega
  · refine ⟨s0, t, p, b, rfl, h1, h2, b1, b2, fun s hs => ?_, fun part p0 p1 p2 p3 => ⟨?_, ?_⟩⟩
    · obtain ⟨⟨u, w, a, c, l, m, x, g1, g2, g3⟩, _⟩ := st s hs
      have lt := (List.getElem?_eq_some_iff.mp g1).1
      rcases g3 with ⟨_, _, e1, e2, e3⟩ | ⟨_, _, e1, e2, e3⟩
      · exact ⟨by omega, .inl e1, lt⟩
      · exact ⟨by omega, .inr e1, lt⟩
    · refine appS_inB (s0 :: t) xs hb nd fun s hs => ?_
      obtain ⟨⟨u, w, a, c, l, m, x, g1, g2, g3⟩, _⟩ := st s hs
      refine ⟨_, x, g1, g2, ?_⟩
      obtain ⟨q1, q2⟩ := ((inB_iff ps xs).mp hb).2 _ _ _ g1 g2
      have q3 := p3 s hs
      have q1' : l ≤ x := q1
      have q2' : x ≤ m := q2
      show l ≤ x + s.2.1 * part ∧ x + s.2.1 * part ≤ m
      rcases g3 with ⟨_, _, e1, e2, e3⟩ | ⟨_, _, e1, e2, e3⟩
      · rw [e1, Int.one_mul]
        omega
      · rw [e1]
        omega
    · have ne : v ≠ b := fun e => by rw [e] at hv; omega
      refine sum_lt (b := b) (fun k hk => ?_) b2 ?_
      · rw [ap]
        by_cases e1 : v = k
        · subst e1
          rw [if_pos rfl, if_neg (fun z => ne z.symm)]
          omega
        · rw [if_neg e1]
          by_cases e2 : b = k
          · rw [if_pos e2]
            omega
          · rw [if_neg e2]
            omega
      · rw [ap, if_neg ne, if_pos rfl]
        omega
end K28
namespace K28
open PySem PySem.Spec PyProof.Rows L2 DL
abbrev cE (ps : List Pp) (s1 s2 s3 s4 s5 s6 s7 s8 s9 s10 s11 s12 s13 s14 : Sl) : EnvD := [.im (.lst (psD ps)), s1, s2, s3, s4, s5, s6, s7, s8, s9, s10, s11, s12, s13, s14, .un]
def FrS (s : Sl) : Prop := s = .un ∨ ∃ d, s = .im d
theorem FrS.im {d : D} : FrS (.im d) := .inr ⟨d, rfl⟩
theorem first_go {ps : List Pp} {De : DEnds} {s6 s7 s8 s9 s10 s11 s12 s13 s14 : Sl} : ∀ (qs : List Pp) (j : Nat) (s1 s2 s3 s4 s5 : Sl), FrS s1 → FrS s2 → FrS s3 → FrS s4 → FrS s5 →
    ((∃ p ∈ qs, p.2.2.2 < p.2.2.1) → ∀ i s1 s2 s3 s4 s5, De.rt (.sh (.tup [.str "pipe", .int i])) (cE ps s1 s2 s3 s4 s5 s6 s7 s8 s9 s10 s11 s12 s13 s14)) →
    ((∀ p ∈ qs, p.2.2.1 ≤ p.2.2.2) → ∀ s1 s2 s3 s4 s5, FrS s1 → FrS s2 → FrS s3 → FrS s4 → FrS s5 → De.nx (cE ps s1 s2 s3 s4 s5 s6 s7 s8 s9 s10 s11 s12 s13 s14)) →
    forGo (gT 2 (gsCons (gN 1) (gsCons (gT 4 (gsCons (gN 2) (gsCons (gN 3) (gsCons (gN 4) (gsCons (gN 5) (gsNil)))))) (gsNil)))) (sIf (wBl (wB fGt (wVar 4) (wVar 5))) (sRet (wTup (wCons (wC (.str "pipe")) (wCons (wVar 1) (wNil))))) (sNext)) (DL.numbered j (psD qs)) (cE ps s1 s2 s3 s4 s5 s6 s7 s8 s9 s10 s11 s12 s13 s14) De
  | [], j, s1, s2, s3, s4, s5, f1, f2, f3, f4, f5, q1, q2 => q2 (fun p hp => nomatch hp) s1 s2 s3 s4 s5 f1 f2 f3 f4 f5
  | (a, b, l, w) :: qs, j, s1, s2, s3, s4, s5, f1, f2, f3, f4, f5, q1, q2 => by
    refine ⟨rfl, (by decide : 1 < 16), rfl, (by decide : 2 < 16), (by decide : 3 < 16), (by decide : 4 < 16), (by decide : 5 < 16), rfl, rfl, ?_⟩
    have t : Tv (wBl (wB fGt (wVar 4) (wVar 5))) (cE ps (.im (.int (j : Nat))) (.im (.str a)) (.im (.str b)) (.im (.int l)) (.im (.int w)) s6 s7 s8 s9 s10 s11 s12 s13 s14) (decide (w < l)) (cE ps (.im (.int (j : Nat))) (.im (.str a)) (.im (.str b)) (.im (.int l)) (.im (.int w)) s6 s7 s8 s9 s10 s11 s12 s13 s14) := .bl (.gtI (.var (k := 4) rfl) (.var (k := 5) rfl))
    by_cases h : w < l
    · rw [decide_eq_true h] at t
      refine if_T t (ret_sh (.tup (.sh .cst (.sh (.var (k := 1) rfl) .nil)) fun _ q => q) ?_)
      exact q1 ⟨_, List.mem_cons_self, h⟩ _ _ _ _ _ _
    · rw [decide_eq_false h] at t
      refine if_F t ?_
      refine first_go qs (j + 1) _ _ _ _ _ .im .im .im .im .im (fun ⟨p, hp, hl⟩ => q1 ⟨p, List.mem_cons_of_mem _ hp, hl⟩) fun hn => q2 fun p hp => ?_
      rcases List.mem_cons.mp hp with rfl | hp
      · show l ≤ w
        omega
      · exact hn p hp
theorem iD_set {xs : List Int} {i : Nat} {x : Int} : (iD xs).set i (.int x) = iD (xs.set i x) := by
  unfold iD
  rw [List.map_set]
theorem mul_way {env env1 env2 : EnvD} {wa wb : WE} {i j : Int} (h : i = 1 ∨ i = -1) (ha : Ev wa env (.sh (.int i)) env1) (hb : Ev wb env1 (.sh (.int j)) env2) : Ev (wB fMul wa wb) env (.sh (.int (i * j))) env2 := .mul ha hb (by
  rcases h with rfl | rfl
  · exact .inl ⟨by decide, by decide⟩
  · exact .inl ⟨by decide, by decide⟩)
theorem push_go {ps : List Pp} {part : Int} {De : DEnds} {s2 s3 s4 s5 s7 s8 s9 s10 s11 : Sl} : ∀ (ss : List Stp) (xs : List Int) (s1 s13 s14 : Sl), FrS s1 → FrS s13 → FrS s14 → (∀ s ∈ ss, (s.2.1 = 1 ∨ s.2.1 = -1) ∧ s.1 < xs.length) →
    (∀ s1 s13 s14, FrS s1 → FrS s13 → FrS s14 → De.nx (cE ps s1 s2 s3 s4 s5 (.ow (.lst (iD (appS part ss xs)))) s7 s8 s9 s10 s11 (.im (.int part)) s13 s14)) →
    forGo (gT 3 (gsCons (gN 1) (gsCons (gN 13) (gsCons (gN 14) (gsNil))))) (sAugIx (fun i j => i + j) (wVar 6) (wVar 1) (wB fMul (wVar 13) (wVar 12))) (ss.map stD) (cE ps s1 s2 s3 s4 s5 (.ow (.lst (iD xs))) s7 s8 s9 s10 s11 (.im (.int part)) s13 s14) De
  | [], xs, s1, s13, s14, f1, f2, f3, _, q => q s1 s13 s14 f1 f2 f3
  | (i, way, room) :: ss, xs, s1, s13, s14, f1, f2, f3, h, q => by
    obtain ⟨hw, hi⟩ := h _ List.mem_cons_self
    have hi' : i < xs.length := hi
    have hx : xs[i]? = some xs[i] := List.getElem?_eq_getElem hi'
    refine ⟨rfl, (by decide : 1 < 16), (by decide : 13 < 16), (by decide : 14 < 16), rfl, ?_⟩
    let env := cE ps (.im (.int (i : Nat))) s2 s3 s4 s5 (.ow (.lst (iD xs))) s7 s8 s9 s10 s11 (.im (.int part)) (.im (.int way)) (.im (.int room))
    refine (Ev.varO (k := 6) (d := .lst (iD xs)) rfl : Ev (wVar 6) env (.br 6) env) _ ?_
    refine (Ev.var (k := 1) (d := .int (i : Nat)) rfl : Ev (wVar 1) env (.sh (.int (i : Nat))) env) _ ?_
    show (match getAt (.lst (iD xs)) (.int (i : Nat)) with
      | some (.int a) => (wB fMul (wVar 13) (wVar 12)) env fun r env3 => (match pk env3 r with
        | some (.int b) => pk env3 (.br 6) = some (.lst (iD xs)) ∧ (plainV (.int (i : Nat))).isSome = true ∧ putAt (.lst (iD xs)) (.int (i : Nat)) (.int (a + b)) fun c' => forGo (gT 3 (gsCons (gN 1) (gsCons (gN 13) (gsCons (gN 14) (gsNil))))) (sAugIx (fun i j => i + j) (wVar 6) (wVar 1) (wB fMul (wVar 13) (wVar 12))) (ss.map stD) (setD env3 6 c') De
        | _ => False)
      | _ => False)
    have ga : getAt (.lst (iD xs)) (.int (i : Nat)) = some (.int xs[i]) := by
      unfold getAt
      dsimp only
      rw [if_pos (Int.natCast_nonneg i)]
      exact iD_at hx
    rw [ga]
    refine mul_way (env := env) (env1 := env) (env2 := env) (i := way) (j := part) hw (.var (k := 13) rfl) (.var (k := 12) rfl) _ ?_
    refine ⟨rfl, rfl, ?_⟩
    have ix : ixN (iD xs).length (i : Int) = some i := by
      unfold iD
      rw [List.length_map]
      unfold ixN
      rw [if_pos (Int.natCast_nonneg i), if_pos (by omega)]
      rfl
    show (match ixN (iD xs).length (i : Int) with | some n => forGo (gT 3 (gsCons (gN 1) (gsCons (gN 13) (gsCons (gN 14) (gsNil))))) (sAugIx (fun i j => i + j) (wVar 6) (wVar 1) (wB fMul (wVar 13) (wVar 12))) (ss.map stD) (setD env 6 (.lst ((iD xs).set n (.int (xs[i] + way * part))))) De | none => False)
    rw [ix]
    dsimp only
    rw [iD_set]
    have es : xs.set i (xs[i] + way * part) = setA xs i (way * part) := by
      unfold setA
      rw [List.getD_eq_getElem?_getD, hx]
      rfl
    rw [es]
    exact push_go ss (setA xs i (way * part)) _ _ _ .im .im .im (fun s hs => by rw [setA_len]; exact h s (List.mem_cons_of_mem _ hs)) q
theorem Road.in_ends {ps : List Pp} {xs : List Int} {bs : List Str} {vs : List Str} {ss : List Stp} (r : Road ps xs bs vs ss) (hb : ∀ b ∈ bs, b ∈ endsP ps) : ∀ v ∈ vs.head?, v ∈ endsP ps := by
  intro v hv
  cases r with
  | nil h => cases hv; exact hb _ h
  | snoc r k n =>
    cases hv
    obtain ⟨a, c, l, w, x, h1, h2, h3⟩ := k
    have me := mem_endsP (List.mem_of_getElem? h1)
    rcases h3 with ⟨g1, g2, g3, _⟩ | ⟨g1, g2, g3, _⟩
    · rw [g2]; exact me.2
    · rw [g2]; exact me.1
end K28
namespace K28
open PySem PySem.Spec PyProof.Rows L2 DL
theorem items_fK (ks : List Str) (f : Str → Int) : itemsD (.dct (dK (fK ks f))) = some (ks.map D.str) := by
  show some ((dK (fK ks f)).map fun kv => keyD kv.1) = _
  unfold dK fK
  rw [List.map_map, List.map_map]
  rfl
def wTail : WS := sFor (wIt (wVar 11)) (gT 3 (gsCons (gN 1) (gsCons (gN 13) (gsCons (gN 14) (gsNil))))) (sAugIx (fun i j => i + j) (wVar 6) (wVar 1) (wB fMul (wVar 13) (wVar 12)))
def wMin12 : WE := wCB fMin (wCons (wB fAdd (wLst (wCons (wB fIx (wVar 7) (wCall s_begun_at [false, false] [] (wCons (wVar 0) (wCons (wVar 11) (wNil))) (fun _ _ => False))) (wCons (wNeg (wB fIx (wVar 7) (wB fIx (wVar 10) (wC (.int 0))))) (wNil)))) (wLc (wIt (wVar 11)) (gT 3 (gsCons (gN 1) (gsCons (gN 13) (gsCons (gN 14) (gsNil))))) (wYes) (wVar 14) [1, 13, 14])) (wNil))
def wPush : WS := sSeq (sSet 11 (wB fIx (wVar 9) (wB fIx (wVar 10) (wC (.int 0))))) (sSeq (sSet 12 wMin12) wTail)
theorem min_w {we : WE} {ns : List Int} {env env1 : EnvD} {Q : R → EnvD → Prop} (h : Ev we env (.fr (.lst (ns.map D.int))) env1) (h0 : 0 < ns.length) (q : ∀ m, m ∈ ns → (∀ y, y ∈ ns → m ≤ y) → Q (.sh (.int m)) env1) : wCB fMin (wCons we wNil) env Q := by
  refine (Av.fr h .nil) _ ?_
  show (match intsD (ns.map D.int) with
    | some ns => 0 < ns.length ∧ ∀ m, m ∈ ns → (∀ y, y ∈ ns → m ≤ y) → Q (.sh (.int m)) env1
    | none => False)
  rw [intsD_map]
  exact ⟨h0, q⟩
/-- from the ends on: push along the first road -/
theorem push_all {ps : List Pp} {xs : List Int} {bs ks : List Str} {rs : List (Str × List Stp)} {e0 : Str} {es : List Str} {De : DEnds} {s1 s2 s3 s4 s5 s8 s11 s12 s13 s14 : Sl} (h12 : ps.length ≤ 12) (hb : inB ps xs = true) (hk : Just (endsP ps) ks)
    (hbs : ∀ b ∈ bs, 0 < exs ps xs b ∧ b ∈ endsP ps) (ok : RoadsOk ps xs bs rs) (me : e0 ∈ rs.map (·.1)) (ne : exs ps xs e0 < 0) (ie : e0 ∈ endsP ps) (f1 : FrS s1) (f13 : FrS s13) (f14 : FrS s14)
    (q : ∀ ys s1 s10 s11 s12 s13 s14, FrS s1 → FrS s13 → FrS s14 → inB ps ys = true → tot ps ys < tot ps xs → De.nx (cE ps s1 s2 s3 s4 s5 (.ow (.lst (iD ys))) (.im (.dct (dK (fK ks fun k => exs ps xs k)))) s8 (.im (.dct (rD rs))) s10 s11 s12 s13 s14)) :
    wPush (cE ps s1 s2 s3 s4 s5 (.ow (.lst (iD xs))) (.im (.dct (dK (fK ks fun k => exs ps xs k)))) s8 (.im (.dct (rD rs))) (.ow (.lst ((e0 :: es).map D.str))) s11 s12 s13 s14) De := by
  obtain ⟨ss, hs, hm⟩ := getM_some me
  obtain ⟨vs, R, hvs⟩ := ok.road _ hm
  obtain ⟨s0, t, p, b, rfl, g1, g2, g3, g4, g5, g6⟩ := push_ok hb hbs R ne
  have len : (s0 :: t).length ≤ 24 := by
    have n1 := nodup_le R.nodup (ys := endsP ps) fun s hs => by
      rcases List.mem_cons.mp hs with rfl | hs
      · exact ie
      · obtain ⟨r, hr, e⟩ := List.mem_map.mp (hvs s hs)
        obtain ⟨ws, R2, _⟩ := ok.road r hr
        rw [← e]
        exact R2.in_ends (fun b hb => (hbs b hb).2) _ rfl
    rw [endsP_len, R.len] at n1
    have n2 : (s0 :: t).length + 1 ≤ 2 * ps.length := n1
    omega
  have e11 : Ev (wB fIx (wVar 9) (wB fIx (wVar 10) (wC (.int 0)))) (cE ps s1 s2 s3 s4 s5 (.ow (.lst (iD xs))) (.im (.dct (dK (fK ks fun k => exs ps xs k)))) s8 (.im (.dct (rD rs))) (.ow (.lst ((e0 :: es).map D.str))) s11 s12 s13 s14) (.sh (.lst ((s0 :: t).map stD))) (cE ps s1 s2 s3 s4 s5 (.ow (.lst (iD xs))) (.im (.dct (dK (fK ks fun k => exs ps xs k)))) s8 (.im (.dct (rD rs))) (.ow (.lst ((e0 :: es).map D.str))) s11 s12 s13 s14) := by
    refine .B (da := .dct (rD rs)) (db := .str e0) (.var (k := 9) rfl) (.ixL (xs := (e0 :: es).map D.str) (.varO (k := 10) rfl) .cst rfl at0) rfl rfl fun Q q => ?_
    show (match vD (rD rs) (.inr e0) with | some d => Q (.sh d) | none => False)
    rw [rD_dM, vD_dM, hs]
    exact q
  refine seq_set_sh e11 (by decide : 11 < 16) ?_
  let env := cE ps s1 s2 s3 s4 s5 (.ow (.lst (iD xs))) (.im (.dct (dK (fK ks fun k => exs ps xs k)))) s8 (.im (.dct (rD rs))) (.ow (.lst ((e0 :: es).map D.str))) (.im (.lst ((s0 :: t).map stD))) s12 s13 s14
  show (sSeq (sSet 12 wMin12) wTail) env De
  refine seq_set_w ?_
  have c1 : Ev (wB fIx (wVar 7) (wCall s_begun_at [false, false] [] (wCons (wVar 0) (wCons (wVar 11) (wNil))) (fun _ _ => False))) env (.sh (.int (exs ps xs b))) env := by
    refine .ixD (ps := fK ks fun k => exs ps xs k) (x := b) (.var (k := 7) rfl) rfl ?_ (getP_fK hk.2.1 ((hk.2.2 _).mpr g4))
    refine .call (as := [.im (.lst (psD ps)), .im (.lst ((s0 :: t).map stD))]) (.sh (.var (k := 0) rfl) (.sh (.var (k := 11) rfl) .nil)) (fun _ q => q) List.nodup_nil rfl fun Q q => ⟨ps, s0, t, p, rfl, g1, ?_⟩
    rw [g2]
    exact q
  have c2 : Ev (wNeg (wB fIx (wVar 7) (wB fIx (wVar 10) (wC (.int 0))))) env (.sh (.int (-exs ps xs e0))) env :=
    .neg (.ixD (ps := fK ks fun k => exs ps xs k) (x := e0) (.var (k := 7) rfl) rfl (.ixL (xs := (e0 :: es).map D.str) (.varO (k := 10) rfl) .cst rfl at0) (getP_fK hk.2.1 ((hk.2.2 _).mpr ie)))
  have c3 : Ev (wLc (wIt (wVar 11)) (gT 3 (gsCons (gN 1) (gsCons (gN 13) (gsCons (gN 14) (gsNil))))) (wYes) (wVar 14) [1, 13, 14]) env (.fr (.lst (((s0 :: t).filter fun _ => true).map fun s => D.int s.2.2))) env := by
    refine .lcA (h := stD) (c := fun _ => true) (.itS (d := .lst ((s0 :: t).map stD)) (.var (k := 11) rfl) rfl) (okWs (by decide) fun v hv => ?_) (small_line (by omega)) fun s hs P hP => ?_
    · have : v = 1 ∨ v = 13 ∨ v = 14 := by simpa using hv
      rcases this with rfl | rfl | rfl
      · rcases f1 with rfl | ⟨d, rfl⟩
        · exact .inl rfl
        · exact .inr ⟨d, rfl⟩
      · rcases f13 with rfl | ⟨d, rfl⟩
        · exact .inl rfl
        · exact .inr ⟨d, rfl⟩
      · rcases f14 with rfl | ⟨d, rfl⟩
        · exact .inl rfl
        · exact .inr ⟨d, rfl⟩
    · obtain ⟨i, way, room⟩ := s
      exact ⟨rfl, (by decide : 1 < 16), (by decide : 13 < 16), (by decide : 14 < 16), rfl, hP _ Tv.yes (fun _ => .var (k := 14) rfl) rfl⟩
  rw [fil_true] at c3
  have c4 : Ev (wB fAdd (wLst (wCons (wB fIx (wVar 7) (wCall s_begun_at [false, false] [] (wCons (wVar 0) (wCons (wVar 11) (wNil))) (fun _ _ => False))) (wCons (wNeg (wB fIx (wVar 7) (wB fIx (wVar 10) (wC (.int 0))))) (wNil)))) (wLc (wIt (wVar 11)) (gT 3 (gsCons (gN 1) (gsCons (gN 13) (gsCons (gN 14) (gsNil))))) (wYes) (wVar 14) [1, 13, 14])) env (.fr (.lst ((exs ps xs b :: -exs ps xs e0 :: (s0 :: t).map (·.2.2)).map D.int))) env := by
    refine .B (da := .lst [.int (exs ps xs b), .int (-exs ps xs e0)]) (db := .lst ((s0 :: t).map fun s => D.int s.2.2)) (.lst (.sh c1 (.sh c2 .nil)) fun _ q => q) c3 rfl rfl fun Q q => ⟨Nat.le_of_lt (line5 ?_), ?_⟩
    · simp only [List.length_cons, List.length_nil, List.length_map] at len ⊢
      omega
    · have e : [D.int (exs ps xs b), D.int (-exs ps xs e0)] ++ ((s0 :: t).map fun s => D.int s.2.2) = (exs ps xs b :: -exs ps xs e0 :: (s0 :: t).map (·.2.2)).map D.int := by
        simp [Function.comp]
      rw [e]
      exact q
  show wMin12 env fun r env1 => setSl 12 r env1 fun e => wTail e De
  refine min_w c4 (Nat.succ_pos _) fun part hm hle => ⟨(by decide : 12 < 16), ?_⟩
  have pp : 0 < part := by
    rcases List.mem_cons.mp hm with rfl | hm
    · exact g3
    · rcases List.mem_cons.mp hm with rfl | hm
      · omega
      · obtain ⟨s, hs, rfl⟩ := List.mem_map.mp hm
        exact (g5 s hs).1
  obtain ⟨k1, k2⟩ := g6 part pp (hle _ List.mem_cons_self) (hle _ (List.mem_cons_of_mem _ List.mem_cons_self)) fun s hs => hle _ (List.mem_cons_of_mem _ (List.mem_cons_of_mem _ (List.mem_map_of_mem hs)))
  let env2 := cE ps s1 s2 s3 s4 s5 (.ow (.lst (iD xs))) (.im (.dct (dK (fK ks fun k => exs ps xs k)))) s8 (.im (.dct (rD rs))) (.ow (.lst ((e0 :: es).map D.str))) (.im (.lst ((s0 :: t).map stD))) (.im (.int part)) s13 s14
  show wTail env2 De
  refine for_of (.itS (d := .lst ((s0 :: t).map stD)) (.var (k := 11) rfl) rfl : Iv (wIt (wVar 11)) env2 ((s0 :: t).map stD) env2) ?_
  refine push_go (s0 :: t) xs s1 s13 s14 f1 f13 f14 (fun s hs => ⟨(g5 s hs).2.1, by rw [inB_len hb]; exact (g5 s hs).2.2⟩) fun s1 s13 s14 f1 f13 f14 => ?_
  exact q _ _ _ _ _ _ _ f1 f13 f14 k1 k2
end K28
namespace K28
open PySem PySem.Spec PyProof.Rows L2 DL
abbrev wGath : WE := wCallR s_gathered (wCons (wVar 0) (wCons (wVar 6) (wNil)))
def wBeg : WE := wLc (wIt (wVar 7)) (gN 15) (wBl (wB fGt (wB fIx (wVar 7) (wVar 15)) (wC (.int 0)))) (wVar 15) [15]
abbrev wRoads : WE := wCall s_roads_from [false, true, false] [] (wCons (wVar 0) (wCons (wVar 6) (wCons (wVar 8) (wNil)))) (fun _ _ => False)
def wEnds : WE := wLc (wIt (wVar 9)) (gN 15) (wBl (wB fLt (wB fIx (wVar 7) (wVar 15)) (wC (.int 0)))) (wVar 15) [15]
def wLot : WE := wTup (wCons (wC (.str "lot")) (wCons (wCB fTuple (wCons (wLc (wIt (wVar 7)) (gN 15) (wBl (wB (fIn true) (wVar 15) (wVar 9))) (wVar 15) [15]) (wNil))) (wNil)))
def wTold : WE := wTup (wCons (wC (.str "rounds")) (wCons (wCB fTuple (wCons (wVar 6) (wNil))) (wNil)))
def wTurn : WS := sSeq (sSet 7 wGath) (sSeq (sSet 8 wBeg) (sSeq (sIf (wBl (wEq own0 1 (wVar 8) (wLst (wNil)))) (sRet wTold) (sNext)) (sSeq (sSet 9 wRoads) (sSeq (sSet 10 wEnds) (sSeq (sIf (wBl (wEq own0 1 (wVar 10) (wLst (wNil)))) (sRet wLot) (sNext)) wPush)))))
theorem inB_none {ps : List Pp} (h : ∃ p ∈ ps, p.2.2.2 < p.2.2.1) (ys : List Int) : validB ps ys = false := by
  cases hv : validB ps ys with
  | false => rfl
  | true =>
    unfold validB at hv
    rw [Bool.and_eq_true] at hv
    obtain ⟨p, hp, lt⟩ := h
    obtain ⟨i, hi, e⟩ := List.mem_iff_getElem.mp hp
    have hb := (inB_iff ps ys).mp hv.1
    have hi2 : i < ys.length := by rw [hb.1]; exact hi
    have := hb.2 i p ys[i] (List.getElem?_eq_some_iff.mpr ⟨hi, e⟩) (List.getElem?_eq_getElem hi2)
    omega
theorem inB_lows : ∀ ps : List Pp, (∀ p ∈ ps, p.2.2.1 ≤ p.2.2.2) → inB ps (ps.map (·.2.2.1)) = true
  | [], _ => rfl
  | p :: ps, h => by
    show (decide (p.2.2.1 ≤ p.2.2.1 ∧ p.2.2.1 ≤ p.2.2.2) && inB ps (ps.map (·.2.2.1))) = true
    rw [inB_lows ps fun q hq => h q (List.mem_cons_of_mem _ hq), decide_eq_true ⟨Int.le_refl _, h p List.mem_cons_self⟩]
    rfl
theorem circ_turn {ps : List Pp} {xs : List Int} {De : DEnds} {s1 s2 s3 s4 s5 s7 s8 s9 s10 s11 s12 s13 s14 : Sl} (gp : GoodPs ps) (hb : inB ps xs = true) (f1 : FrS s1) (f13 : FrS s13) (f14 : FrS s14)
    (qy : validB ps xs = true → ∀ s1 s2 s3 s4 s5 s6 s7 s8 s9 s10 s11 s12 s13 s14, De.rt (.sh (.tup [.str "rounds", .tup (iD xs)])) (cE ps s1 s2 s3 s4 s5 s6 s7 s8 s9 s10 s11 s12 s13 s14))
    (qn : (∀ ys, validB ps ys = false) → ∀ d s1 s2 s3 s4 s5 s6 s7 s8 s9 s10 s11 s12 s13 s14, De.rt (.sh (.tup [.str "lot", d])) (cE ps s1 s2 s3 s4 s5 s6 s7 s8 s9 s10 s11 s12 s13 s14))
    (q : ∀ ys s1 s7 s8 s9 s10 s11 s12 s13 s14, FrS s1 → FrS s13 → FrS s14 → inB ps ys = true → tot ps ys < tot ps xs → De.nx (cE ps s1 s2 s3 s4 s5 (.ow (.lst (iD ys))) s7 s8 s9 s10 s11 s12 s13 s14)) :
    wTurn (cE ps s1 s2 s3 s4 s5 (.ow (.lst (iD xs))) s7 s8 s9 s10 s11 s12 s13 s14) De := by
  have h12 := gp.2.1
  refine seq_set_w ?_
  refine (Av.sh (.var (k := 0) rfl) (.br (.varO (k := 6) rfl) .nil) : Av _ _ [.sh (.lst (psD ps)), .br 6] (cE ps s1 s2 s3 s4 s5 (.ow (.lst (iD xs))) s7 s8 s9 s10 s11 s12 s13 s14)) _ ?_
  refine ⟨fun i hi => ?_, ps, .lst (iD xs), xs, rfl, rfl, inB_len hb, h12, fun ks hk => ⟨fun kv hk2 => ?_, (by decide : 7 < 16), ?_⟩⟩
  · have hi2 : i ∈ [6] := hi
    rw [List.mem_singleton.mp hi2]
    exact ⟨iD xs, rfl⟩
  · obtain ⟨p, hp, rfl⟩ := List.mem_map.mp hk2
    rfl
  have lk : ks.length ≤ 24 := by have := just_len hk; omega
  -- begins
  let g : Str → Int := fun k => exs ps xs k
  let bs := ks.filter fun k => decide (0 < exs ps xs k)
  let E1 := cE ps s1 s2 s3 s4 s5 (.ow (.lst (iD xs))) (.ow (.dct (dK (fK ks g)))) s8 s9 s10 s11 s12 s13 s14
  let E2 := cE ps s1 s2 s3 s4 s5 (.ow (.lst (iD xs))) (.im (.dct (dK (fK ks g)))) s8 s9 s10 s11 s12 s13 s14
  have i7 : Iv (wIt (wVar 7)) E1 (ks.map D.str) E2 := .it (.varO (k := 7) rfl) (fun P p => p) (items_fK ks g)
  have e8 : Ev wBeg E1 (.fr (.lst (bs.map D.str))) E2 := .lcA1 (h := D.str) (c := fun k => decide (0 < exs ps xs k)) i7 (k := 15) rfl (small_line (by omega)) (fun x hx => .bl (.gtI (.ixD (ps := fK ks g) (.var (k := 7) rfl) rfl (.var (k := 15) rfl) (getP_fK hk.2.1 hx)) .cst)) fun x hx _ => .var (k := 15) rfl
  refine seq_set_fr e8 (by decide : 8 < 16) ?_
  have hbs : ∀ b ∈ bs, 0 < exs ps xs b ∧ b ∈ endsP ps := fun b hb => by
    obtain ⟨h1, h2⟩ := List.mem_filter.mp hb
    exact ⟨of_decide_eq_true h2, (hk.2.2 _).mp h1⟩
  have bnd : bs.Nodup := hk.2.1.filter _
  let E3 := cE ps s1 s2 s3 s4 s5 (.ow (.lst (iD xs))) (.im (.dct (dK (fK ks g)))) (.ow (.lst (bs.map D.str))) s9 s10 s11 s12 s13 s14
  have t8 : Tv (wBl (wEq own0 1 (wVar 8) (wLst (wNil)))) E3 (decide (bs.map D.str = [])) E3 := .bl (.eqL0 (xs := bs.map D.str) (.varO (k := 8) rfl) rfl)
  by_cases hn : bs = []
  · rw [decide_eq_true (by rw [hn]; rfl)] at t8
    refine seq_if_T t8 ?_
    have ev : Ev wTold E3 (.sh (.tup [.str "rounds", .tup (iD xs)])) E3 := .tup (.sh .cst (.sh (.tuL (.varO (k := 6) rfl) rfl) .nil)) fun _ q => q
    refine ret_sh ev (qy ?_ _ _ _ _ _ _ _ _ _ _ _ _ _ _)
    unfold validB
    rw [hb, even_of fun k hk2 => ?_]
    · rfl
    · have hm := (hk.2.2 k).mpr hk2
      have : ¬ 0 < exs ps xs k := fun z => by
        have : k ∈ bs := List.mem_filter.mpr ⟨hm, decide_eq_true z⟩
        rw [hn] at this
        exact (nomatch this)
      omega
  · rw [decide_eq_false (fun z => hn (List.map_eq_nil_iff.mp z))] at t8
    refine seq_if_F t8 ?_
    refine seq_set_w ?_
    refine (Av.sh (.var (k := 0) rfl) (.br (.varO (k := 6) rfl) (.br (.varO (k := 8) rfl) .nil)) : Av _ _ [.sh (.lst (psD ps)), .br 6, .br 8] E3) _ ?_
    refine ⟨(by decide : ([6] : List Nat).Nodup), rfl, ps, xs, bs, rfl, gp, inB_len hb, bnd, fun b hb => (hbs b hb).2, fun rs ok => ⟨(by decide : 9 < 16), ?_⟩⟩
    have rin : ∀ x ∈ rs.map (·.1), x ∈ endsP ps := fun x hx => by
      obtain ⟨r, hr, e⟩ := List.mem_map.mp hx
      obtain ⟨ws, R2, _⟩ := ok.road r hr
      rw [← e]
      exact R2.in_ends (fun b hb => (hbs b hb).2) _ rfl
    have lr : rs.length ≤ 24 := by
      have := nodup_le ok.nd rin
      rw [endsP_len, List.length_map] at this
      omega
    let E4 := cE ps s1 s2 s3 s4 s5 (.ow (.lst (iD xs))) (.im (.dct (dK (fK ks g)))) (.im (.lst (bs.map D.str))) (.ow (.dct (rD rs))) s10 s11 s12 s13 s14
    let E5 := cE ps s1 s2 s3 s4 s5 (.ow (.lst (iD xs))) (.im (.dct (dK (fK ks g)))) (.im (.lst (bs.map D.str))) (.im (.dct (rD rs))) s10 s11 s12 s13 s14
    let es := (rs.map (·.1)).filter fun k => decide (exs ps xs k < 0)
    have i9 : Iv (wIt (wVar 9)) E4 ((rs.map (·.1)).map D.str) E5 := .it (.varO (k := 9) rfl) (fun P p => p) (by rw [rD_dM]; exact itemsD_dM)
    have e10 : Ev wEnds E4 (.fr (.lst (es.map D.str))) E5 := .lcA1 (h := D.str) (c := fun k => decide (exs ps xs k < 0)) i9 (k := 15) rfl (by rw [List.length_map]; exact small_line (by omega)) (fun x hx => .bl (.leI (.ixD (ps := fK ks g) (.var (k := 7) rfl) rfl (.var (k := 15) rfl) (getP_fK hk.2.1 ((hk.2.2 _).mpr (rin x hx)))) .cst)) fun x hx _ => .var (k := 15) rfl
    show (sSeq (sSet 10 wEnds) (sSeq (sIf (wBl (wEq own0 1 (wVar 10) (wLst (wNil)))) (sRet wLot) (sNext)) wPush)) E4 De
    refine seq_set_fr e10 (by decide : 10 < 16) ?_
    let E6 := cE ps s1 s2 s3 s4 s5 (.ow (.lst (iD xs))) (.im (.dct (dK (fK ks g)))) (.im (.lst (bs.map D.str))) (.im (.dct (rD rs))) (.ow (.lst (es.map D.str))) s11 s12 s13 s14
    have t10 : Tv (wBl (wEq own0 1 (wVar 10) (wLst (wNil)))) E6 (decide (es.map D.str = [])) E6 := .bl (.eqL0 (xs := es.map D.str) (.varO (k := 10) rfl) rfl)
    show (sSeq (sIf (wBl (wEq own0 1 (wVar 10) (wLst (wNil)))) (sRet wLot) (sNext)) wPush) E6 De
    cases he : es with
    | nil =>
      rw [decide_eq_true (by rw [he]; rfl)] at t10
      refine seq_if_T t10 ?_
      have i7' : Iv (wIt (wVar 7)) E6 (ks.map D.str) E6 := .itS (d := .dct (dK (fK ks g))) (.var (k := 7) rfl) (items_fK ks g)
      have e7 : Ev (wLc (wIt (wVar 7)) (gN 15) (wBl (wB (fIn true) (wVar 15) (wVar 9))) (wVar 15) [15]) E6 (.fr (.lst ((ks.filter fun k => !decide (k ∈ rs.map (·.1))).map D.str))) E6 := .lcA1 (h := D.str) (c := fun k => !decide (k ∈ rs.map (·.1))) i7' (k := 15) rfl (small_line (by omega)) (fun x hx => .bl (.B (da := .str x) (db := .dct (rD rs)) (.var (k := 15) rfl) (.var (k := 9) rfl) rfl rfl fun Q q => by
        show Q (.sh (.bl (!(vD (rD rs) (.inr x)).isSome)))
        rw [rD_dM, vD_dM, Option.isSome_map, getM_isSome]
        exact q)) fun x hx _ => .var (k := 15) rfl
      have ev : Ev wLot E6 (.sh (.tup [.str "lot", .tup ((ks.filter fun k => !decide (k ∈ rs.map (·.1))).map D.str)])) E6 := .tup (.sh .cst (.sh (.tuL e7 rfl) .nil)) fun _ q => q
      refine ret_sh ev (qn ?_ _ _ _ _ _ _ _ _ _ _ _ _ _ _ _)
      obtain ⟨b, hbm⟩ := List.exists_mem_of_ne_nil bs hn
      exact lot_none hb hbm (hbs b hbm).1 ok fun k hk2 z => by
        have : k ∈ es := List.mem_filter.mpr ⟨hk2, decide_eq_true z⟩
        rw [he] at this
        exact (nomatch this)
    | cons e0 es' =>
      rw [decide_eq_false (by rw [he]; exact fun z => nomatch z)] at t10
      refine seq_if_F t10 ?_
      have hm : e0 ∈ es := by rw [he]; exact List.mem_cons_self
      obtain ⟨h1, h2⟩ := List.mem_filter.mp hm
      have pa := push_all (De := De) (s1 := s1) (s2 := s2) (s3 := s3) (s4 := s4) (s5 := s5) (s8 := .im (.lst (bs.map D.str))) (s11 := s11) (s12 := s12) (s13 := s13) (s14 := s14) (es := es') h12 hb hk hbs ok h1 (of_decide_eq_true h2) (rin e0 h1) f1 f13 f14 fun ys s1 s10 s11 s12 s13 s14 f1 f13 f14 k1 k2 => q _ _ _ _ _ _ _ _ _ _ f1 f13 f14 k1 k2
      rw [← he] at pa
      exact pa
theorem circ_go {ps : List Pp} {De : DEnds} {s2 s3 s4 s5 : Sl} (gp : GoodPs ps)
    (qy : ∀ xs, validB ps xs = true → ∀ s1 s2 s3 s4 s5 s6 s7 s8 s9 s10 s11 s12 s13 s14, De.rt (.sh (.tup [.str "rounds", .tup (iD xs)])) (cE ps s1 s2 s3 s4 s5 s6 s7 s8 s9 s10 s11 s12 s13 s14))
    (qn : (∀ ys, validB ps ys = false) → ∀ d s1 s2 s3 s4 s5 s6 s7 s8 s9 s10 s11 s12 s13 s14, De.rt (.sh (.tup [.str "lot", d])) (cE ps s1 s2 s3 s4 s5 s6 s7 s8 s9 s10 s11 s12 s13 s14)) : ∀ (n : Nat) (xs : List Int) (s1 s7 s8 s9 s10 s11 s12 s13 s14 : Sl), inB ps xs = true → tot ps xs < n → FrS s1 → FrS s13 → FrS s14 →
    whGo (wBl (wC (.bl true))) wTurn n (cE ps s1 s2 s3 s4 s5 (.ow (.lst (iD xs))) s7 s8 s9 s10 s11 s12 s13 s14) De
  | 0, xs, s1, s7, s8, s9, s10, s11, s12, s13, s14, hb, h, f1, f13, f14 => absurd h (Nat.not_lt_zero _)
  | n + 1, xs, s1, s7, s8, s9, s10, s11, s12, s13, s14, hb, h, f1, f13, f14 => by
    let E0 := cE ps s1 s2 s3 s4 s5 (.ow (.lst (iD xs))) s7 s8 s9 s10 s11 s12 s13 s14
    refine (Tv.bl Ev.cst : Tv (wBl (wC (.bl true))) E0 true E0) _ ?_
    rw [if_pos rfl]
    exact circ_turn gp hb f1 f13 f14 (qy xs) qn fun ys s1 s7 s8 s9 s10 s11 s12 s13 s14 f1 f13 f14 k1 k2 => circ_go gp qy qn n ys s1 s7 s8 s9 s10 s11 s12 s13 s14 k1 (by omega) f1 f13 f14
theorem p_circulated (args : List Sl) (Qd : R → EnvD → Prop) (Ed : XD → EnvD → Prop) (h : s_circulated args Qd Ed) : b_circulated (args ++ uns 15) (ends 1 Qd) := by
  obtain ⟨ps, rfl, gp, qy, qn⟩ := h
  have en : Iv (wEnum (wCons (wVar 0) (wNil))) (cE ps .un .un .un .un .un .un .un .un .un .un .un .un .un .un) (DL.numbered 0 (psD ps)) (cE ps .un .un .un .un .un .un .un .un .un .un .un .un .un .un) := fun Q q => q
  refine seq_for en ?_
  refine first_go ps 0 .un .un .un .un .un (.inl rfl) (.inl rfl) (.inl rfl) (.inl rfl) (.inl rfl) (fun hw i s1 s2 s3 s4 s5 => qn (inB_none hw) _ _ (by decide)) fun hw s1 s2 s3 s4 s5 f1 f2 f3 f4 f5 => ?_
  let E := cE ps s1 s2 s3 s4 s5 .un .un .un .un .un .un .un .un .un
  have e6 : Ev (wLc (wIt (wVar 0)) (gT 4 (gsCons (gN 2) (gsCons (gN 3) (gsCons (gN 4) (gsCons (gN 5) (gsNil)))))) (wYes) (wVar 4) [2, 3, 4, 5]) E (.fr (.lst ((ps.filter fun _ => true).map fun p => D.int p.2.2.1))) E := by
    refine .lcA (h := pD) (c := fun _ => true) (.itS (d := .lst (psD ps)) (.var (k := 0) rfl) rfl) (okWs (by decide) fun v hv => ?_) (small_line (by have := gp.2.1; omega)) fun p hp P hP => ?_
    · have : v = 2 ∨ v = 3 ∨ v = 4 ∨ v = 5 := by simpa using hv
      rcases this with rfl | rfl | rfl | rfl
      · rcases f2 with rfl | ⟨d, rfl⟩
        · exact .inl rfl
        · exact .inr ⟨d, rfl⟩
      · rcases f3 with rfl | ⟨d, rfl⟩
        · exact .inl rfl
        · exact .inr ⟨d, rfl⟩
      · rcases f4 with rfl | ⟨d, rfl⟩
        · exact .inl rfl
        · exact .inr ⟨d, rfl⟩
      · rcases f5 with rfl | ⟨d, rfl⟩
        · exact .inl rfl
        · exact .inr ⟨d, rfl⟩
    · exact ⟨rfl, (by decide : 2 < 16), (by decide : 3 < 16), (by decide : 4 < 16), (by decide : 5 < 16), rfl, hP _ Tv.yes (fun _ => .var (k := 4) rfl) rfl⟩
  rw [fil_true] at e6
  have ei : (ps.map fun p => D.int p.2.2.1) = iD (ps.map (·.2.2.1)) := by
    unfold iD
    rw [List.map_map]
    rfl
  rw [ei] at e6
  refine seq_set_fr e6 (by decide : 6 < 16) ?_
  refine ⟨tot ps (ps.map (·.2.2.1)) + 1, ?_⟩
  exact circ_go (De := ends 1 Qd) gp (fun xs v s1 s2 s3 s4 s5 s6 s7 s8 s9 s10 s11 s12 s13 s14 => qy xs v) (fun hn d s1 s2 s3 s4 s5 s6 s7 s8 s9 s10 s11 s12 s13 s14 => qn hn _ _ (by decide)) _ _ s1 .un .un .un .un .un .un .un .un (inB_lows ps hw) (Nat.lt_succ_self _) f1 (.inl rfl) (.inl rfl)
end K28
namespace K28
open PySem PySem.Spec PyProof.Rows L2 DL
section
variable {ls : List Lp} {ks ns : List Str} {zs : List (Str × Int)} {env : EnvD} {Ed : XD → EnvD → Prop}
theorem need_ev (so : SizesOk zs) (hl : ns.length < 1000) (hn : ∀ n ∈ ns, n ∈ zs.map (·.1)) (h0 : env[0]? = some (.im (mkLoop (ls.map lpD) ks ns))) (h1 : env[1]? = some (.im (.dct (dK zs)))) : Ev (wCall s_need_sizes [false, false] [] (wCons (wFld ["Loop"] "loop_names" (wVar 0)) (wCons (wVar 1) (wNil))) Ed) env (.sh .non) env :=
  .call (as := [.im (.tup (sDs ns)), .im (.dct (dK zs))]) (.sh (.fld (cs := ["Loop"]) (.var h0) (by rfl) (List.mem_singleton.mpr rfl) (by rfl)) (.sh (.var h1) .nil)) (fun _ q => q) List.nodup_nil rfl fun Q q => ⟨ns, zs, rfl, so, hl, hn, q⟩
theorem nums_ev (ok : LpsOk ls zs) (h0 : env[0]? = some (.im (mkLoop (ls.map lpD) ks ns))) (h1 : env[1]? = some (.im (.dct (dK zs)))) : Ev (wCall s_numbers_at [false, false] [] (wCons (wVar 0) (wCons (wVar 1) (wNil))) Ed) env (.fr (.lst (psD (ls.map (atZ zs))))) env :=
  .call (as := [.im (mkLoop (ls.map lpD) ks ns), .im (.dct (dK zs))]) (.sh (.var h0) (.sh (.var h1) .nil)) (fun _ q => q) List.nodup_nil rfl fun Q q => ⟨ls, ks, ns, zs, rfl, ok, q⟩
end
theorem p_are_rounds (args : List Sl) (Qd : R → EnvD → Prop) (Ed : XD → EnvD → Prop) (h : s_are_rounds args Qd Ed) : b_are_rounds (args ++ uns 0) (ends 3 Qd) := by
  obtain ⟨ls, ks, ns, zs, xs, rfl, ok, hl, hn, hx, h0, h⟩ := h
  let env : EnvD := [.im (mkLoop (ls.map lpD) ks ns), .im (.dct (dK zs)), .im (.tup (iD xs))]
  have n1 : Ev (wCall s_need_sizes [false, false] [] (wCons (wFld ["Loop"] "loop_names" (wVar 0)) (wCons (wVar 1) (wNil))) (fun _ _ => False)) env (.sh .non) env := need_ev (ls := ls) (ks := ks) ok.1 hl hn rfl rfl
  refine n1 _ ?_
  have l12 : (ls.map (atZ zs)).length ≤ 12 := by rw [List.length_map]; exact ok.2.2.1
  have e : Ev (wCall s_are_rounds_by [false, false] [] (wCons (wCall s_numbers_at [false, false] [] (wCons (wVar 0) (wCons (wVar 1) (wNil))) (fun _ _ => False)) (wCons (wVar 2) (wNil))) (fun _ _ => False)) env (.sh (.bl (validB (ls.map (atZ zs)) xs))) env :=
    .call (as := [.im (.lst (psD (ls.map (atZ zs)))), .im (.tup (iD xs))]) (.fr (nums_ev (ns := ns) (ks := ks) ok rfl rfl) (.sh (.var (k := 2) rfl) .nil)) (fun _ q => q) List.nodup_nil rfl fun Q q => ⟨ls.map (atZ zs), xs, rfl, by rw [List.length_map]; exact hx, l12, h0, q⟩
  exact ret_sh (De := ends 3 Qd) e h
theorem p_rounds_at (args : List Sl) (Qd : R → EnvD → Prop) (Ed : XD → EnvD → Prop) (h : s_rounds_at args Qd Ed) : b_rounds_at (args ++ uns 1) (ends 2 Qd) := by
  obtain ⟨ls, ks, ns, zs, rfl, ok, gp, hl, hn, qy, qn⟩ := h
  let env : EnvD := [.im (mkLoop (ls.map lpD) ks ns), .im (.dct (dK zs)), .un]
  have n1 : Ev (wCall s_need_sizes [false, false] [] (wCons (wFld ["Loop"] "loop_names" (wVar 0)) (wCons (wVar 1) (wNil))) (fun _ _ => False)) env (.sh .non) env := need_ev (ls := ls) (ks := ks) ok.1 hl hn rfl rfl
  refine n1 _ ?_
  dsimp only
  refine seq_set_w ?_
  refine (Av.fr (nums_ev (ls := ls) (ns := ns) (ks := ks) (zs := zs) (env := env) (Ed := fun _ _ => False) ok rfl rfl) .nil : Av _ env [.sh (.lst (psD (ls.map (atZ zs))))] env) _ ?_
  refine ⟨List.nodup_nil, rfl, ls.map (atZ zs), rfl, gp, fun xs hv => ⟨(by decide : 2 < 3), ?_⟩, fun hv w d hw => ⟨(by decide : 2 < 3), ?_⟩⟩
  · let e2 : EnvD := [.im (mkLoop (ls.map lpD) ks ns), .im (.dct (dK zs)), .im (.tup [.str "rounds", .tup (iD xs)])]
    have t : Tv (wBl (wEq own0 0 (wB fIx (wVar 2) (wC (.int 0))) (wC (.str "rounds")))) e2 (decide (("rounds" : Str) = "rounds")) e2 := .bl (.eqS (.ixT (.var (k := 2) rfl) .cst at0) .cst)
    rw [decide_eq_true rfl] at t
    exact ret_sh (De := ends 2 Qd) (.ifT t (.var (k := 2) rfl)) (qy xs hv)
  · let e2 : EnvD := [.im (mkLoop (ls.map lpD) ks ns), .im (.dct (dK zs)), .im (.tup [.str w, d])]
    have t : Tv (wBl (wEq own0 0 (wB fIx (wVar 2) (wC (.int 0))) (wC (.str "rounds")))) e2 (decide (w = "rounds")) e2 := .bl (.eqS (.ixT (.var (k := 2) rfl) .cst at0) .cst)
    rw [decide_eq_false hw] at t
    have e : Ev (wTup (wCons (wC (.str "broken")) (wCons (wVar 2) (wNil)))) e2 (.sh (.tup [.str "broken", .tup [.str w, d]])) e2 := .tup (.sh .cst (.sh (.var (k := 2) rfl) .nil)) fun _ q => q
    exact ret_sh (De := ends 2 Qd) (.ifF t e) (qn hv _)
end K28
namespace K28
open PySem PySem.Spec PyProof.Rows L2 DL
open C8 (InsC)
variable {P : Program} {w : World} {K : PySem.W.Frag} {mg : Str → Option Value} {base : Heap}
theorem ok_is_number (X0 : Fx K mg) {fd : FuncData} (F : FnP K "is_number" (top 9) (He.ga K "is_number") fd) (hm : mg "is_number" = some (.ref (He.ga K "is_number"))) : Ok P w K mg base 1 "is_number" ["thing"] s_is_number :=
  Ok.of F (F.bindsN fun _ _ _ _ _ _ us hl => match us, hl with | [_], _ => rfl) hm (fn_D (k := 0) F sc_is_number rfl 0 rfl fun cdv A outer s H E G Ed hr hlk => ⟨b_is_number, dss_nox
    (dss_one (ds_ret (de_and (de_isi X0.i_int (.ty "int") (by rfl) X0.g_isinstance (de_var 0 rfl) (pe_bltn (by rfl) X0.g_int (by decide +kernel) rfl)) (de_one (de_not (de_isi X0.i_bool (.ty "bool") (by rfl) X0.g_isinstance (de_var 0 rfl) (pe_bltn (by rfl) X0.g_bool (by decide +kernel) rfl))))))), fun args Qd la h => p_is_number args Qd Ed h⟩)
theorem ok_is_from (X0 : Fx K mg) (O_is_number : Ok P w K mg base 1 "is_number" ["thing"] s_is_number) {fd : FuncData} (F : FnP K "is_from" (top 10) (He.ga K "is_from") fd) (hm : mg "is_from" = some (.ref (He.ga K "is_from"))) : Ok P w K mg base 2 "is_from" ["thing", "least"] s_is_from :=
  Ok.of F (F.bindsN fun _ _ _ _ _ _ us hl => match us, hl with | [_, _], _ => rfl) hm (fn_D (k := 1) F sc_is_from rfl 0 rfl fun cdv A outer s H E G Ed hr hlk => ⟨b_is_from, dss_nox
    (dss_one (ds_ret (de_and (de_c [false] O_is_number (hr.mono (by decide)) (by rfl) (da_cons (de_var 0 rfl) (da_nil))) (de_one (de_cm cm_ge (de_var 0 rfl) (de_var 1 rfl)))))), fun args Qd la h => p_is_from args Qd Ed h⟩)
theorem ok_is_name (X0 : Fx K mg) {fd : FuncData} (F : FnP K "is_name" (top 11) (He.ga K "is_name") fd) (hm : mg "is_name" = some (.ref (He.ga K "is_name"))) : Ok P w K mg base 1 "is_name" ["thing"] s_is_name :=
  Ok.of F (F.bindsN fun _ _ _ _ _ _ us hl => match us, hl with | [_], _ => rfl) hm (fn_D (k := 0) F sc_is_name rfl 1 rfl fun cdv A outer s H E G Ed hr hlk => ⟨b_is_name, dss_nox
    (dss_cons (ds_if (dt_w (dw_or (dt_not (dt_val (de_isi X0.i_str (.ty "str") (by rfl) X0.g_isinstance (de_var 0 rfl) (pe_bltn (by rfl) X0.g_str (by decide +kernel) rfl)))) (dw_or1 (dt_not (dt_chain (g := (fun i j => decide (i ≤ j))) (g' := (fun i j => decide (i ≤ j))) op_le op_le (de_int) (de_callB (n := 1) cr_len cd_len (by rfl) X0.g_len boot_len (da_cons (de_var 0 rfl) (da_nil))) (de_gIx (by rfl) X0.c_MOST_LETTERS)))))) (dss_one (ds_ret (de_bl))) (dss_nil)) (dss_one (ds_ret (de_callB (n := 1) (cr_all rfl) cd_all (by rfl) X0.g_all (by decide +kernel) (da_cons (de_lc (own := [("sign", 1)]) rfl sc_is_name.nd (di_it (de_var 0 rfl)) (blkOk_by (own := [("sign", 1)]) (N := ["thing", "sign"]) (sc := defScope (top 11)) (by decide +kernel)) (fun _ _ _ _ _ => dg_name 1 (by simp) sc_is_name.nd rfl (by first | exact Or.inl rfl | exact Or.inr rfl)) (fun _ _ _ _ _ => dpts_nil) (fun _ _ _ _ _ => de_cm (cm_in hr.units) (de_var 1 rfl) (de_gSx (by rfl) X0.c_LETTERS))) (da_nil)))))), fun args Qd la h => p_is_name args Qd Ed h⟩)
theorem ok_is_list (X0 : Fx K mg) {fd : FuncData} (F : FnP K "is_list" (top 17) (He.ga K "is_list") fd) (hm : mg "is_list" = some (.ref (He.ga K "is_list"))) : Ok P w K mg base 1 "is_list" ["thing"] s_is_list :=
  Ok.of F (F.bindsN fun _ _ _ _ _ _ us hl => match us, hl with | [_], _ => rfl) hm (fn_D (k := 0) F sc_is_list rfl 0 rfl fun cdv A outer s H E G Ed hr hlk => ⟨b_is_list, dss_nox
    (dss_one (ds_ret (de_isiT X0.i_list_tuple (.ty "list") (.ty "tuple") (by rfl) X0.g_isinstance (de_var 0 rfl) (pe_tup (pa_cons (pe_bltn (by rfl) X0.g_list (by decide +kernel) rfl) (pa_cons (pe_bltn (by rfl) X0.g_tuple (by decide +kernel) rfl) pa_nil)))))), fun args Qd la h => p_is_list args Qd Ed h⟩)
theorem ok_is_loop_pipe (X0 : Fx K mg) (O_is_name : Ok P w K mg base 1 "is_name" ["thing"] s_is_name) {fd : FuncData} (F : FnP K "is_loop_pipe" (top 21) (He.ga K "is_loop_pipe") fd) (hm : mg "is_loop_pipe" = some (.ref (He.ga K "is_loop_pipe"))) : Ok P w K mg base 2 "is_loop_pipe" ["thing"] s_is_loop_pipe :=
  Ok.of F (F.bindsN fun _ _ _ _ _ _ us hl => match us, hl with | [_], _ => rfl) hm (fn_D (k := 1) F sc_is_loop_pipe rfl 0 rfl fun cdv A outer s H E G Ed hr hlk => ⟨b_is_loop_pipe, dss_nox
    (dss_cons (ds_if (dt_w (dw_or (dt_not (dt_val (de_isi X0.i_tuple (.ty "tuple") (by rfl) X0.g_isinstance (de_var 0 rfl) (pe_bltn (by rfl) X0.g_tuple (by decide +kernel) rfl)))) (dw_or (dt_NotEq (own := own0) (n := 0) pass0 (own0_all (k0 := 0)) (hr.mono (by decide)) (de_callB (n := 1) cr_len cd_len (by rfl) X0.g_len boot_len (da_cons (de_var 0 rfl) (da_nil))) (de_int)) (dw_or (dt_not (dt_val (de_c [false] O_is_name (hr.mono (by decide)) (by rfl) (da_cons (de_ix hr.units (de_var 0 rfl) (de_int)) (da_nil))))) (dw_or1 (dt_not (dt_val (de_c [false] O_is_name (hr.mono (by decide)) (by rfl) (da_cons (de_ix hr.units (de_var 0 rfl) (de_int)) (da_nil)))))))))) (dss_one (ds_ret (de_bl))) (dss_nil)) (dss_one (ds_ret (de_and (de_NotEq (own := own0) (n := 0) pass0 (own0_all (k0 := 0)) (hr.mono (by decide)) (de_ix hr.units (de_var 0 rfl) (de_int)) (de_ix hr.units (de_var 0 rfl) (de_int))) (de_and (de_isi X0.i_Sum (.own _) (by rfl) X0.g_isinstance (de_ix hr.units (de_var 0 rfl) (de_int)) (pe_glob (by rfl) X0.o_Sum rfl)) (de_one (de_isi X0.i_Sum (.own _) (by rfl) X0.g_isinstance (de_ix hr.units (de_var 0 rfl) (de_int)) (pe_glob (by rfl) X0.o_Sum rfl)))))))), fun args Qd la h => p_is_loop_pipe args Qd Ed h⟩)
theorem ok_ends_of (X0 : Fx K mg) {fd : FuncData} (F : FnP K "ends_of" (top 22) (He.ga K "ends_of") fd) (hm : mg "ends_of" = some (.ref (He.ga K "ends_of"))) : Ok P w K mg base 1 "ends_of" ["pipes"] s_ends_of :=
  Ok.of F (F.bindsN fun _ _ _ _ _ _ us hl => match us, hl with | [_], _ => rfl) hm (fn_D (k := 0) F sc_ends_of rfl 2 rfl fun cdv A outer s H E G Ed hr hlk => ⟨b_ends_of, dss_nox
    (dss_cons (ds_set 1 sc_ends_of.nd rfl (by first | exact Or.inl rfl | exact Or.inr rfl) (de_dict0)) (dss_cons (ds_for (vs := [2]) PassesOwn.never rfl (di_it (de_var 0 rfl)) (dg_name 2 (by simp) sc_ends_of.nd rfl (by first | exact Or.inl rfl | exact Or.inr rfl)) (dss_cons (ds_put hr.units (de_bl) (de_var 1 rfl) (de_ix hr.units (de_var 2 rfl) (de_int))) (dss_one (ds_put hr.units (de_bl) (de_var 1 rfl) (de_ix hr.units (de_var 2 rfl) (de_int)))))) (dss_one (ds_ret (de_callTy (n := 1) call_tuple_of cd_tuple (by rfl) X0.g_tuple (by decide +kernel) (da_cons (de_callB (n := 1) (cr_sortA rfl) cd_sorted (by rfl) X0.g_sorted (by decide +kernel) (da_cons (de_var 1 rfl) (da_nil))) (da_nil))))))), fun args Qd la h => p_ends_of args Qd Ed h⟩)
theorem ok_Sum_init (X0 : Fx K mg) (O_is_name : Ok P w K mg base 1 "is_name" ["thing"] s_is_name) (O_is_from : Ok P w K mg base 2 "is_from" ["thing", "least"] s_is_from) {f : Addr} {fd : FuncData} {dvs : List V} (F : FunD K "__init__" "Sum.__init__" (defArgs (mth 15 0)) (defBody (mth 15 0)) (defScope (mth 15 0)) dvs [] f fd) : FnOk P w K mg base (L2.CX P w) 3 f fd ["self", "parts"] (spD K 2 s_Sum_init) :=
  fn_D (k := 2) F sc_Sum_init rfl 2 rfl fun cdv A outer s H E G Ed hr hlk => ⟨b_Sum_init, dss_nox
    (dss_cons (ds_set 2 sc_Sum_init.nd rfl (by first | exact Or.inl rfl | exact Or.inr rfl) (de_ifExp (dt_cm cm_is (de_var 1 rfl) (de_non)) (de_dict0) (de_var 1 rfl))) (dss_cons (ds_if (dt_w (dw_or (dt_not (dt_val (de_isi X0.i_dict (.ty "dict") (by rfl) X0.g_isinstance (de_var 2 rfl) (pe_bltn (by rfl) X0.g_dict (by decide +kernel) rfl)))) (dw_or1 (dt_not (dt_val (de_callB (n := 1) (cr_all rfl) cd_all (by rfl) X0.g_all (by decide +kernel) (da_cons (de_lc (own := [("name", 3)]) rfl sc_Sum_init.nd (di_it (de_var 2 rfl)) (blkOk_by (own := [("name", 3)]) (N := ["self", "parts", "given", "name"]) (sc := defScope (mth 15 0)) (by decide +kernel)) (fun _ _ _ _ _ => dg_name 3 (by simp) sc_Sum_init.nd rfl (by first | exact Or.inl rfl | exact Or.inr rfl)) (fun _ _ _ _ _ => dpts_nil) (fun _ _ _ _ _ => de_c [false] O_is_name (hr.mono (by decide)) (by rfl) (da_cons (de_var 3 rfl) (da_nil)))) (da_nil)))))))) (dss_one (ds_never)) (dss_nil)) (dss_cons (ds_for (vs := [3]) PassesOwn.never rfl (di_it (de_callB (n := 1) (cr_sortA rfl) cd_sorted (by rfl) X0.g_sorted (by decide +kernel) (da_cons (de_var 2 rfl) (da_nil)))) (dg_name 3 (by simp) sc_Sum_init.nd rfl (by first | exact Or.inl rfl | exact Or.inr rfl)) (dss_one (ds_if (dt_not (dt_val (de_c [false, false] O_is_from (hr.mono (by decide)) (by rfl) (da_cons (de_ix hr.units (de_var 2 rfl) (de_var 3 rfl)) (da_cons (de_int) (da_nil)))))) (dss_one (ds_never)) (dss_nil)))) (dss_one (ds_fld (cs := ["Sum"]) (f := "own_parts") 0 X0.f_own_parts rfl (de_dc (own := [("name", 3)]) rfl sc_Sum_init.nd (di_it (de_callB (n := 1) (cr_sortA rfl) cd_sorted (by rfl) X0.g_sorted (by decide +kernel) (da_cons (de_var 2 rfl) (da_nil)))) (blkOk_by (own := [("name", 3)]) (N := ["self", "parts", "given", "name"]) (sc := defScope (mth 15 0)) (by decide +kernel)) (fun _ _ _ _ _ => dg_name 3 (by simp) sc_Sum_init.nd rfl (by first | exact Or.inl rfl | exact Or.inr rfl)) (fun _ _ _ _ _ => dpts_one (dt_cm cm_gt (de_ix hr.units (de_var 2 rfl) (de_var 3 rfl)) (de_int))) (fun _ _ _ _ _ => de_var 3 rfl) (fun _ _ _ _ _ => de_ix hr.units (de_var 2 rfl) (de_var 3 rfl)))))))), fun args Qd la h => p_Sum_init args Qd Ed h⟩
theorem ok_Loop_init (X0 : Fx K mg) (O_is_list : Ok P w K mg base 1 "is_list" ["thing"] s_is_list) (X_BadLoop : ExOk P w K mg base 1 "BadLoop" "part") (O_is_loop_pipe : Ok P w K mg base 2 "is_loop_pipe" ["thing"] s_is_loop_pipe) (O_ends_of : Ok P w K mg base 1 "ends_of" ["pipes"] s_ends_of) {f : Addr} {fd : FuncData} {dvs : List V} (F : FunD K "__init__" "Loop.__init__" (defArgs (mth 23 0)) (defBody (mth 23 0)) (defScope (mth 23 0)) dvs [] f fd) : FnOk P w K mg base (L2.CX P w) 3 f fd ["self", "pipes"] (spD K 2 s_Loop_init) :=
  fn_D (k := 2) F sc_Loop_init rfl 5 rfl fun cdv A outer s H E G Ed hr hlk => ⟨b_Loop_init Ed, (dss_cons (ds_if (dt_not (dt_val (de_c [false] O_is_list (hr.mono (by decide)) (by rfl) (da_cons (de_var 1 rfl) (da_nil))))) (dss_one (ds_raise X_BadLoop (hr.mono (by decide)) rfl (takes_of rfl rfl rfl rfl) hlk (by rfl) (da_cons (de_non) (da_nil)))) (dss_nil)) (dss_cons (ds_for (vs := [2, 3]) (passes_of rfl) rfl (di_enum (n := 1) rfl (by rfl) X0.g_enumerate (da_cons (de_var 1 rfl) (da_nil))) (dg_tup rfl (dgs_cons (dg_name 2 (by simp) sc_Loop_init.nd rfl (by first | exact Or.inl rfl | exact Or.inr rfl)) (dgs_cons (dg_name 3 (by simp) sc_Loop_init.nd rfl (by first | exact Or.inl rfl | exact Or.inr rfl)) (dgs_nil)))) (dss_one (ds_if (dt_w (dw_or (dt_Eq (own := own0) (n := 0) pass0 (own0_all (k0 := 0)) (hr.mono (by decide)) (de_var 2 rfl) (de_gIx (by rfl) X0.c_MOST_LOOP_PIPES)) (dw_or (dt_not (dt_val (de_c [false] O_is_loop_pipe (hr.mono (by decide)) (by rfl) (da_cons (de_var 3 rfl) (da_nil))))) (dw_or1 (dt_cm cm_gt (de_callB (n := 1) cr_len cd_len (by rfl) X0.g_len boot_len (da_cons (de_c [false] O_ends_of (hr.mono (by decide)) (by rfl) (da_cons (de_slice (de_var 1 rfl) (do_none) (do_some (de_add (de_var 2 rfl) (de_int)))) (da_nil))) (da_nil))) (de_gIx (by rfl) X0.c_MOST_LOOP_KNOTS)))))) (dss_one (ds_raise X_BadLoop (hr.mono (by decide)) rfl (takes_of rfl rfl rfl rfl) hlk (by rfl) (da_cons (de_var 2 rfl) (da_nil)))) (dss_nil)))) (dss_cons (ds_fld (cs := ["Loop"]) (f := "loop_pipes") 0 X0.f_loop_pipes rfl (de_callTy (n := 1) call_tuple_of cd_tuple (by rfl) X0.g_tuple (by decide +kernel) (da_cons (de_var 1 rfl) (da_nil)))) (dss_cons (ds_fld (cs := ["Loop"]) (f := "loop_knots") 0 X0.f_loop_knots rfl (de_c [false] O_ends_of (hr.mono (by decide)) (by rfl) (da_cons (de_var 1 rfl) (da_nil)))) (dss_cons (ds_setDc3 4 (own := [("pipe", 3), ("total", 5), ("name", 6)]) (v1 := [5, 6]) (v2 := [6]) rfl sc_Loop_init.nd (di_it (de_var 1 rfl)) (blkOk_by (own := [("pipe", 3), ("total", 5), ("name", 6)]) (N := ["self", "pipes", "at", "pipe", "used", "total", "name"]) (sc := defScope (mth 23 0)) (by decide +kernel)) (by decide) (by decide) (fun _ _ _ _ _ => dg_name 3 (by simp) sc_Loop_init.nd rfl (by first | exact Or.inl rfl | exact Or.inr rfl)) (fun _ _ _ _ _ => dpts_nil) (fun _ _ _ _ _ => di_it (de_slice (de_var 3 rfl) (do_some (de_int)) (do_none))) (fun _ _ _ _ _ => dg_name 5 (by simp) sc_Loop_init.nd rfl (by first | exact Or.inl rfl | exact Or.inr rfl)) (fun _ _ _ _ _ => dpts_nil) (fun _ _ _ _ _ => di_it (de_fld (cs := ["Sum"]) (f := "own_parts") X0.f_own_parts (de_var 5 rfl))) (fun _ _ _ _ _ => dg_name 6 (by simp) sc_Loop_init.nd rfl (by first | exact Or.inl rfl | exact Or.inr rfl)) (fun _ _ _ _ _ => dpts_nil) (fun _ _ _ _ _ => de_var 6 rfl) (fun _ _ _ _ _ => de_bl)) (dss_one (ds_fld (cs := ["Loop"]) (f := "loop_names") 0 X0.f_loop_names rfl (de_callTy (n := 1) call_tuple_of cd_tuple (by rfl) X0.g_tuple (by decide +kernel) (da_cons (de_callB (n := 1) (cr_sortA rfl) cd_sorted (by rfl) X0.g_sorted (by decide +kernel) (da_cons (de_var 4 rfl) (da_nil))) (da_nil)))))))))), fun args Qd la h => p_Loop_init args Qd Ed h⟩
theorem ok_are_some_sizes (X0 : Fx K mg) (O_is_name : Ok P w K mg base 1 "is_name" ["thing"] s_is_name) (O_is_from : Ok P w K mg base 2 "is_from" ["thing", "least"] s_is_from) {fd : FuncData} (F : FnP K "are_some_sizes" (top 12) (He.ga K "are_some_sizes") fd) (hm : mg "are_some_sizes" = some (.ref (He.ga K "are_some_sizes"))) : Ok P w K mg base 3 "are_some_sizes" ["thing"] s_are_some_sizes :=
  Ok.of F (F.bindsN fun _ _ _ _ _ _ us hl => match us, hl with | [_], _ => rfl) hm (fn_D (k := 2) F sc_are_some_sizes rfl 2 rfl fun cdv A outer s H E G Ed hr hlk => ⟨b_are_some_sizes, dss_nox
    (dss_cons (ds_if (dt_not (dt_val (de_isi X0.i_dict (.ty "dict") (by rfl) X0.g_isinstance (de_var 0 rfl) (pe_bltn (by rfl) X0.g_dict (by decide +kernel) rfl)))) (dss_one (ds_ret (de_bl))) (dss_nil)) (dss_one (ds_ret (de_callB (n := 1) (cr_all rfl) cd_all (by rfl) X0.g_all (by decide +kernel) (da_cons (de_lc (own := [("name", 1), ("number", 2)]) rfl sc_are_some_sizes.nd (di_items (de_var 0 rfl)) (blkOk_by (own := [("name", 1), ("number", 2)]) (N := ["thing", "name", "number"]) (sc := defScope (top 12)) (by decide +kernel)) (fun _ _ _ _ _ => dg_tup rfl (dgs_cons (dg_name 1 (by simp) sc_are_some_sizes.nd rfl (by first | exact Or.inl rfl | exact Or.inr rfl)) (dgs_cons (dg_name 2 (by simp) sc_are_some_sizes.nd rfl (by first | exact Or.inl rfl | exact Or.inr rfl)) (dgs_nil)))) (fun _ _ _ _ _ => dpts_nil) (fun _ _ _ _ _ => de_and (de_c [false] O_is_name (hr.mono (by decide)) (by rfl) (da_cons (de_var 1 rfl) (da_nil))) (de_one (de_c [false, false] O_is_from (hr.mono (by decide)) (by rfl) (da_cons (de_var 2 rfl) (da_cons (de_int) (da_nil))))))) (da_nil)))))), fun args Qd la h => p_are_some_sizes args Qd Ed h⟩)
theorem ok_need_sizes (X0 : Fx K mg) (O_are_some_sizes : Ok P w K mg base 3 "are_some_sizes" ["thing"] s_are_some_sizes) {fd : FuncData} (F : FnP K "need_sizes" (top 13) (He.ga K "need_sizes") fd) (hm : mg "need_sizes" = some (.ref (He.ga K "need_sizes"))) : Ok P w K mg base 4 "need_sizes" ["names", "sizes"] s_need_sizes :=
  Ok.of F (F.bindsN fun _ _ _ _ _ _ us hl => match us, hl with | [_, _], _ => rfl) hm (fn_D (k := 3) F sc_need_sizes rfl 1 rfl fun cdv A outer s H E G Ed hr hlk => ⟨b_need_sizes, dss_nox
    (dss_one (ds_if (dt_w (dw_or (dt_not (dt_val (de_c [false] O_are_some_sizes (hr.mono (by decide)) (by rfl) (da_cons (de_var 1 rfl) (da_nil))))) (dw_or1 (dt_not (dt_val (de_callB (n := 1) (cr_all rfl) cd_all (by rfl) X0.g_all (by decide +kernel) (da_cons (de_lc (own := [("name", 2)]) rfl sc_need_sizes.nd (di_it (de_var 0 rfl)) (blkOk_by (own := [("name", 2)]) (N := ["names", "sizes", "name"]) (sc := defScope (top 13)) (by decide +kernel)) (fun _ _ _ _ _ => dg_name 2 (by simp) sc_need_sizes.nd rfl (by first | exact Or.inl rfl | exact Or.inr rfl)) (fun _ _ _ _ _ => dpts_nil) (fun _ _ _ _ _ => de_cm (cm_in hr.units) (de_var 2 rfl) (de_var 1 rfl))) (da_nil)))))))) (dss_one (ds_never)) (dss_nil))), fun args Qd la h => p_need_sizes args Qd Ed h⟩)
theorem ok_worth_at (X0 : Fx K mg) {fd : FuncData} (F : FnP K "worth_at" (top 14) (He.ga K "worth_at") fd) (hm : mg "worth_at" = some (.ref (He.ga K "worth_at"))) : Ok P w K mg base 1 "worth_at" ["total", "sizes"] s_worth_at :=
  Ok.of F (F.bindsN fun _ _ _ _ _ _ us hl => match us, hl with | [_, _], _ => rfl) hm (fn_D (k := 0) F sc_worth_at rfl 2 rfl fun cdv A outer s H E G Ed hr hlk => ⟨b_worth_at, dss_nox
    (dss_one (ds_ret (de_callB (n := 1) (cr_sum rfl) cd_sum (by rfl) X0.g_sum (by decide +kernel) (da_cons (de_lc (own := [("name", 2), ("number", 3)]) rfl sc_worth_at.nd (di_items (de_fld (cs := ["Sum"]) (f := "own_parts") X0.f_own_parts (de_var 0 rfl))) (blkOk_by (own := [("name", 2), ("number", 3)]) (N := ["total", "sizes", "name", "number"]) (sc := defScope (top 14)) (by decide +kernel)) (fun _ _ _ _ _ => dg_tup rfl (dgs_cons (dg_name 2 (by simp) sc_worth_at.nd rfl (by first | exact Or.inl rfl | exact Or.inr rfl)) (dgs_cons (dg_name 3 (by simp) sc_worth_at.nd rfl (by first | exact Or.inl rfl | exact Or.inr rfl)) (dgs_nil)))) (fun _ _ _ _ _ => dpts_nil) (fun _ _ _ _ _ => de_mul (de_var 3 rfl) (de_ix hr.units (de_var 1 rfl) (de_var 2 rfl)))) (da_nil))))), fun args Qd la h => p_worth_at args Qd Ed h⟩)
theorem ok_numbers_at (X0 : Fx K mg) (O_worth_at : Ok P w K mg base 1 "worth_at" ["total", "sizes"] s_worth_at) {fd : FuncData} (F : FnP K "numbers_at" (top 24) (He.ga K "numbers_at") fd) (hm : mg "numbers_at" = some (.ref (He.ga K "numbers_at"))) : Ok P w K mg base 2 "numbers_at" ["loop", "sizes"] s_numbers_at :=
  Ok.of F (F.bindsN fun _ _ _ _ _ _ us hl => match us, hl with | [_, _], _ => rfl) hm (fn_D (k := 1) F sc_numbers_at rfl 4 rfl fun cdv A outer s H E G Ed hr hlk => ⟨b_numbers_at, dss_nox
    (dss_one (ds_ret (de_lc (own := [("tail", 2), ("head", 3), ("low", 4), ("width", 5)]) rfl sc_numbers_at.nd (di_it (de_fld (cs := ["Loop"]) (f := "loop_pipes") X0.f_loop_pipes (de_var 0 rfl))) (blkOk_by (own := [("tail", 2), ("head", 3), ("low", 4), ("width", 5)]) (N := ["loop", "sizes", "tail", "head", "low", "width"]) (sc := defScope (top 24)) (by decide +kernel)) (fun _ _ _ _ _ => dg_tup rfl (dgs_cons (dg_name 2 (by simp) sc_numbers_at.nd rfl (by first | exact Or.inl rfl | exact Or.inr rfl)) (dgs_cons (dg_name 3 (by simp) sc_numbers_at.nd rfl (by first | exact Or.inl rfl | exact Or.inr rfl)) (dgs_cons (dg_name 4 (by simp) sc_numbers_at.nd rfl (by first | exact Or.inl rfl | exact Or.inr rfl)) (dgs_cons (dg_name 5 (by simp) sc_numbers_at.nd rfl (by first | exact Or.inl rfl | exact Or.inr rfl)) (dgs_nil)))))) (fun _ _ _ _ _ => dpts_nil) (fun _ _ _ _ _ => de_tup (n := 4) (da_cons (de_var 2 rfl) (da_cons (de_var 3 rfl) (da_cons (de_c [false, false] O_worth_at (hr.mono (by decide)) (by rfl) (da_cons (de_var 4 rfl) (da_cons (de_var 1 rfl) (da_nil)))) (da_cons (de_c [false, false] O_worth_at (hr.mono (by decide)) (by rfl) (da_cons (de_var 5 rfl) (da_cons (de_var 1 rfl) (da_nil)))) (da_nil))))))))), fun args Qd la h => p_numbers_at args Qd Ed h⟩)
theorem ok_gathered (X0 : Fx K mg) (O_ends_of : Ok P w K mg base 1 "ends_of" ["pipes"] s_ends_of) {fd : FuncData} (F : FnP K "gathered" (top 26) (He.ga K "gathered") fd) (hm : mg "gathered" = some (.ref (He.ga K "gathered"))) : Ok P w K mg base 2 "gathered" ["pipes", "amounts"] s_gathered :=
  Ok.of F (F.bindsN fun _ _ _ _ _ _ us hl => match us, hl with | [_, _], _ => rfl) hm (fn_D (k := 1) F sc_gathered rfl 4 rfl fun cdv A outer s H E G Ed hr hlk => ⟨b_gathered, dss_nox
    (dss_cons (ds_setDc1 2 (own := [("knot", 5)]) rfl sc_gathered.nd (di_it (de_c [false] O_ends_of (hr.mono (by decide)) (by rfl) (da_cons (de_var 0 rfl) (da_nil)))) (blkOk_by (own := [("knot", 5)]) (N := ["pipes", "amounts", "found", "pipe", "amount", "knot"]) (sc := defScope (top 26)) (by decide +kernel)) (fun _ _ _ _ _ => dg_name 5 (by simp) sc_gathered.nd rfl (by first | exact Or.inl rfl | exact Or.inr rfl)) (fun _ _ _ _ _ => dpts_nil) (fun _ _ _ _ _ => de_var 5 rfl) (fun _ _ _ _ _ => de_int)) (dss_cons (ds_for (vs := [3, 4]) PassesOwn.never rfl (di_zip (n := 2) (by rfl) X0.g_zip (da_cons (de_var 0 rfl) (da_cons (de_var 1 rfl) (da_nil)))) (dg_tup rfl (dgs_cons (dg_name 3 (by simp) sc_gathered.nd rfl (by first | exact Or.inl rfl | exact Or.inr rfl)) (dgs_cons (dg_name 4 (by simp) sc_gathered.nd rfl (by first | exact Or.inl rfl | exact Or.inr rfl)) (dgs_nil)))) (dss_cons (ds_augIx (g := (fun i j => i - j)) hr.units (de_var 2 rfl) (de_ix hr.units (de_var 3 rfl) (de_int)) (de_var 4 rfl) ip_sub) (dss_one (ds_augIx (g := (fun i j => i + j)) hr.units (de_var 2 rfl) (de_ix hr.units (de_var 3 rfl) (de_int)) (de_var 4 rfl) ip_add)))) (dss_one (ds_ret (de_var 2 rfl))))), fun args Qd la h => p_gathered args Qd Ed h⟩)
theorem ok_are_rounds_by (X0 : Fx K mg) (O_is_from : Ok P w K mg base 2 "is_from" ["thing", "least"] s_is_from) (O_gathered : Ok P w K mg base 2 "gathered" ["pipes", "amounts"] s_gathered) {fd : FuncData} (F : FnP K "are_rounds_by" (top 25) (He.ga K "are_rounds_by") fd) (hm : mg "are_rounds_by" = some (.ref (He.ga K "are_rounds_by"))) : Ok P w K mg base 3 "are_rounds_by" ["pipes", "thing"] s_are_rounds_by :=
  Ok.of F (F.bindsN fun _ _ _ _ _ _ us hl => match us, hl with | [_, _], _ => rfl) hm (fn_D (k := 2) F sc_are_rounds_by rfl 6 rfl fun cdv A outer s H E G Ed hr hlk => ⟨b_are_rounds_by, dss_nox
    (dss_cons (ds_if (dt_w (dw_or (dt_not (dt_val (de_isi X0.i_tuple (.ty "tuple") (by rfl) X0.g_isinstance (de_var 1 rfl) (pe_bltn (by rfl) X0.g_tuple (by decide +kernel) rfl)))) (dw_or (dt_NotEq (own := own0) (n := 0) pass0 (own0_all (k0 := 0)) (hr.mono (by decide)) (de_callB (n := 1) cr_len cd_len (by rfl) X0.g_len boot_len (da_cons (de_var 1 rfl) (da_nil))) (de_callB (n := 1) cr_len cd_len (by rfl) X0.g_len boot_len (da_cons (de_var 0 rfl) (da_nil)))) (dw_or1 (dt_not (dt_val (de_callB (n := 1) (cr_all rfl) cd_all (by rfl) X0.g_all (by decide +kernel) (da_cons (de_lc (own := [("one", 2)]) rfl sc_are_rounds_by.nd (di_it (de_var 1 rfl)) (blkOk_by (own := [("one", 2)]) (N := ["pipes", "thing", "one", "tail", "head", "low", "width", "more"]) (sc := defScope (top 25)) (by decide +kernel)) (fun _ _ _ _ _ => dg_name 2 (by simp) sc_are_rounds_by.nd rfl (by first | exact Or.inl rfl | exact Or.inr rfl)) (fun _ _ _ _ _ => dpts_nil) (fun _ _ _ _ _ => de_c [false, false] O_is_from (hr.mono (by decide)) (by rfl) (da_cons (de_var 2 rfl) (da_cons (de_int) (da_nil))))) (da_nil))))))))) (dss_one (ds_ret (de_bl))) (dss_nil)) (dss_cons (ds_if (dt_not (dt_val (de_callB (n := 1) (cr_all rfl) cd_all (by rfl) X0.g_all (by decide +kernel) (da_cons (de_lc (own := [("one", 2), ("tail", 3), ("head", 4), ("low", 5), ("width", 6)]) rfl sc_are_rounds_by.nd (di_zip (n := 2) (by rfl) X0.g_zip (da_cons (de_var 0 rfl) (da_cons (de_var 1 rfl) (da_nil)))) (blkOk_by (own := [("one", 2), ("tail", 3), ("head", 4), ("low", 5), ("width", 6)]) (N := ["pipes", "thing", "one", "tail", "head", "low", "width", "more"]) (sc := defScope (top 25)) (by decide +kernel)) (fun _ _ _ _ _ => dg_tup rfl (dgs_cons (dg_tup rfl (dgs_cons (dg_name 3 (by simp) sc_are_rounds_by.nd rfl (by first | exact Or.inl rfl | exact Or.inr rfl)) (dgs_cons (dg_name 4 (by simp) sc_are_rounds_by.nd rfl (by first | exact Or.inl rfl | exact Or.inr rfl)) (dgs_cons (dg_name 5 (by simp) sc_are_rounds_by.nd rfl (by first | exact Or.inl rfl | exact Or.inr rfl)) (dgs_cons (dg_name 6 (by simp) sc_are_rounds_by.nd rfl (by first | exact Or.inl rfl | exact Or.inr rfl)) (dgs_nil)))))) (dgs_cons (dg_name 2 (by simp) sc_are_rounds_by.nd rfl (by first | exact Or.inl rfl | exact Or.inr rfl)) (dgs_nil)))) (fun _ _ _ _ _ => dpts_nil) (fun _ _ _ _ _ => de_chain (g := (fun i j => decide (i ≤ j))) (g' := (fun i j => decide (i ≤ j))) op_le op_le (de_var 5 rfl) (de_var 2 rfl) (de_var 6 rfl))) (da_nil))))) (dss_one (ds_ret (de_bl))) (dss_nil)) (dss_one (ds_ret (de_callB (n := 1) (cr_all rfl) cd_all (by rfl) X0.g_all (by decide +kernel) (da_cons (de_lc (own := [("more", 7)]) rfl sc_are_rounds_by.nd (di_vals (de_c [false, false] O_gathered (hr.mono (by decide)) (by rfl) (da_cons (de_var 0 rfl) (da_cons (de_var 1 rfl) (da_nil))))) (blkOk_by (own := [("more", 7)]) (N := ["pipes", "thing", "one", "tail", "head", "low", "width", "more"]) (sc := defScope (top 25)) (by decide +kernel)) (fun _ _ _ _ _ => dg_name 7 (by simp) sc_are_rounds_by.nd rfl (by first | exact Or.inl rfl | exact Or.inr rfl)) (fun _ _ _ _ _ => dpts_nil) (fun _ _ _ _ _ => de_Eq (own := own0) (n := 0) pass0 (own0_all (k0 := 0)) (hr.mono (by decide)) (de_var 7 rfl) (de_int))) (da_nil))))))), fun args Qd la h => p_are_rounds_by args Qd Ed h⟩)
theorem ok_roads_from (X0 : Fx K mg) {fd : FuncData} (F : FnP K "roads_from" (top 27) (He.ga K "roads_from") fd) (hm : mg "roads_from" = some (.ref (He.ga K "roads_from"))) : Ok P w K mg base 1 "roads_from" ["pipes", "amounts", "begins"] s_roads_from :=
  Ok.of F (F.bindsN fun _ _ _ _ _ _ us hl => match us, hl with | [_, _, _], _ => rfl) hm (fn_D (k := 0) F sc_roads_from rfl 14 rfl fun cdv A outer s H E G Ed hr hlk => ⟨b_roads_from, dss_nox
    (dss_cons (ds_par3 3 4 5 rfl sc_roads_from.nd rfl rfl rfl (by decide) (by decide) (by decide) rfl rfl rfl (de_dc (own := [("knot", 16)]) rfl sc_roads_from.nd (di_it (de_var 2 rfl)) (blkOk_by (own := [("knot", 16)]) (N := ["pipes", "amounts", "begins", "roads", "line", "spot", "here", "at", "tail", "head", "low", "width", "one", "other", "way", "room", "knot"]) (sc := defScope (top 27)) (by decide +kernel)) (fun _ _ _ _ _ => dg_name 16 (by simp) sc_roads_from.nd rfl (by first | exact Or.inl rfl | exact Or.inr rfl)) (fun _ _ _ _ _ => dpts_nil) (fun _ _ _ _ _ => de_var 16 rfl) (fun _ _ _ _ _ => de_lst (n := 0) (da_nil))) (de_callTy (n := 1) (cr_list rfl) cd_list (by rfl) X0.g_list (by decide +kernel) (da_cons (de_var 2 rfl) (da_nil))) pe_int rfl (by rfl)) (dss_cons (ds_while PassesOwn.never (dt_cm cm_lt (de_var 5 rfl) (de_callB (n := 1) cr_len cd_len (by rfl) X0.g_len boot_len (da_cons (de_var 4 rfl) (da_nil)))) (dss_cons (ds_set 6 sc_roads_from.nd rfl (by first | exact Or.inl rfl | exact Or.inr rfl) (de_ix hr.units (de_var 4 rfl) (de_var 5 rfl))) (dss_cons (ds_aug (g := (fun i j => i + j)) 5 sc_roads_from.nd rfl (by first | exact Or.inl rfl | exact Or.inr rfl) ip_add (de_int)) (dss_one (ds_for (vs := [7, 8, 9, 10, 11]) PassesOwn.never rfl (di_enum (n := 1) rfl (by rfl) X0.g_enumerate (da_cons (de_var 0 rfl) (da_nil))) (dg_tup rfl (dgs_cons (dg_name 7 (by simp) sc_roads_from.nd rfl (by first | exact Or.inl rfl | exact Or.inr rfl)) (dgs_cons (dg_tup rfl (dgs_cons (dg_name 8 (by simp) sc_roads_from.nd rfl (by first | exact Or.inl rfl | exact Or.inr rfl)) (dgs_cons (dg_name 9 (by simp) sc_roads_from.nd rfl (by first | exact Or.inl rfl | exact Or.inr rfl)) (dgs_cons (dg_name 10 (by simp) sc_roads_from.nd rfl (by first | exact Or.inl rfl | exact Or.inr rfl)) (dgs_cons (dg_name 11 (by simp) sc_roads_from.nd rfl (by first | exact Or.inl rfl | exact Or.inr rfl)) (dgs_nil)))))) (dgs_nil)))) (dss_one (ds_for (vs := [12, 13, 14, 15]) PassesOwn.never rfl (di_it (de_tup (n := 2) (da_cons (de_tup (n := 4) (da_cons (de_var 8 rfl) (da_cons (de_var 9 rfl) (da_cons (de_int) (da_cons (de_sub (de_var 11 rfl) (de_ix hr.units (de_var 1 rfl) (de_var 7 rfl))) (da_nil)))))) (da_cons (de_tup (n := 4) (da_cons (de_var 9 rfl) (da_cons (de_var 8 rfl) (da_cons (de_neg (de_int)) (da_cons (de_sub (de_ix hr.units (de_var 1 rfl) (de_var 7 rfl)) (de_var 10 rfl)) (da_nil)))))) (da_nil))))) (dg_tup rfl (dgs_cons (dg_name 12 (by simp) sc_roads_from.nd rfl (by first | exact Or.inl rfl | exact Or.inr rfl)) (dgs_cons (dg_name 13 (by simp) sc_roads_from.nd rfl (by first | exact Or.inl rfl | exact Or.inr rfl)) (dgs_cons (dg_name 14 (by simp) sc_roads_from.nd rfl (by first | exact Or.inl rfl | exact Or.inr rfl)) (dgs_cons (dg_name 15 (by simp) sc_roads_from.nd rfl (by first | exact Or.inl rfl | exact Or.inr rfl)) (dgs_nil)))))) (dss_one (ds_if (dt_w (dw_and (dt_Eq (own := own0) (n := 0) pass0 (own0_all (k0 := 0)) (hr.mono (by decide)) (de_var 12 rfl) (de_var 6 rfl)) (dw_and (dt_cm cm_gt (de_var 15 rfl) (de_int)) (dw_and1 (dt_cm (cm_nin hr.units) (de_var 13 rfl) (de_var 3 rfl)))))) (dss_cons (ds_put hr.units (de_add (de_ix hr.units (de_var 3 rfl) (de_var 6 rfl)) (de_lst (n := 1) (da_cons (de_tup (n := 3) (da_cons (de_var 7 rfl) (da_cons (de_var 14 rfl) (da_cons (de_var 15 rfl) (da_nil))))) (da_nil)))) (de_var 3 rfl) (de_var 13 rfl)) (dss_one (ds_expr (de_append (n := 1) (de_var 4 rfl) (da_cons (de_var 13 rfl) (da_nil)))))) (dss_nil)))))))))) (dss_one (ds_ret (de_var 3 rfl))))), fun args Qd la h => p_roads_from args Qd Ed h⟩)
theorem ok_begun_at (X0 : Fx K mg) {fd : FuncData} (F : FnP K "begun_at" (top 28) (He.ga K "begun_at") fd) (hm : mg "begun_at" = some (.ref (He.ga K "begun_at"))) : Ok P w K mg base 1 "begun_at" ["pipes", "road_steps"] s_begun_at :=
  Ok.of F (F.bindsN fun _ _ _ _ _ _ us hl => match us, hl with | [_, _], _ => rfl) hm (fn_D (k := 0) F sc_begun_at rfl 3 rfl fun cdv A outer s H E G Ed hr hlk => ⟨b_begun_at, dss_nox
    (dss_cons (ds_asg (vs := [2, 3, 4]) (de_ix hr.units (de_var 1 rfl) (de_int)) (dg_tup rfl (dgs_cons (dg_name 2 (by simp) sc_begun_at.nd rfl (by first | exact Or.inl rfl | exact Or.inr rfl)) (dgs_cons (dg_name 3 (by simp) sc_begun_at.nd rfl (by first | exact Or.inl rfl | exact Or.inr rfl)) (dgs_cons (dg_name 4 (by simp) sc_begun_at.nd rfl (by first | exact Or.inl rfl | exact Or.inr rfl)) (dgs_nil)))))) (dss_one (ds_ret (de_ifExp (dt_Eq (own := own0) (n := 0) pass0 (own0_all (k0 := 0)) (hr.mono (by decide)) (de_var 3 rfl) (de_int)) (de_ix hr.units (de_ix hr.units (de_var 0 rfl) (de_var 2 rfl)) (de_int)) (de_ix hr.units (de_ix hr.units (de_var 0 rfl) (de_var 2 rfl)) (de_int)))))), fun args Qd la h => p_begun_at args Qd Ed h⟩)
theorem ok_circulated (X0 : Fx K mg) (O_gathered : Ok P w K mg base 2 "gathered" ["pipes", "amounts"] s_gathered) (O_roads_from : Ok P w K mg base 1 "roads_from" ["pipes", "amounts", "begins"] s_roads_from) (O_begun_at : Ok P w K mg base 1 "begun_at" ["pipes", "road_steps"] s_begun_at) {fd : FuncData} (F : FnP K "circulated" (top 29) (He.ga K "circulated") fd) (hm : mg "circulated" = some (.ref (He.ga K "circulated"))) : Ok P w K mg base 3 "circulated" ["pipes"] s_circulated :=
  Ok.of F (F.bindsN fun _ _ _ _ _ _ us hl => match us, hl with | [_], _ => rfl) hm (fn_D (k := 2) F sc_circulated rfl 15 rfl fun cdv A outer s H E G Ed hr hlk => ⟨b_circulated, dss_nox
    (dss_cons (ds_for (vs := [1, 2, 3, 4, 5]) PassesOwn.never rfl (di_enum (n := 1) rfl (by rfl) X0.g_enumerate (da_cons (de_var 0 rfl) (da_nil))) (dg_tup rfl (dgs_cons (dg_name 1 (by simp) sc_circulated.nd rfl (by first | exact Or.inl rfl | exact Or.inr rfl)) (dgs_cons (dg_tup rfl (dgs_cons (dg_name 2 (by simp) sc_circulated.nd rfl (by first | exact Or.inl rfl | exact Or.inr rfl)) (dgs_cons (dg_name 3 (by simp) sc_circulated.nd rfl (by first | exact Or.inl rfl | exact Or.inr rfl)) (dgs_cons (dg_name 4 (by simp) sc_circulated.nd rfl (by first | exact Or.inl rfl | exact Or.inr rfl)) (dgs_cons (dg_name 5 (by simp) sc_circulated.nd rfl (by first | exact Or.inl rfl | exact Or.inr rfl)) (dgs_nil)))))) (dgs_nil)))) (dss_one (ds_if (dt_cm cm_gt (de_var 4 rfl) (de_var 5 rfl)) (dss_one (ds_ret (de_tup (n := 2) (da_cons (de_str) (da_cons (de_var 1 rfl) (da_nil)))))) (dss_nil)))) (dss_cons (ds_setLc (own := [("tail", 2), ("head", 3), ("low", 4), ("width", 5)]) 6 rfl sc_circulated.nd rfl rfl (sw_true rfl rfl rfl (by decide +kernel)) (di_it (de_var 0 rfl)) (blkOk_by (own := [("tail", 2), ("head", 3), ("low", 4), ("width", 5)]) (N := ["pipes", "at", "tail", "head", "low", "width", "amounts", "more", "begins", "roads", "ends", "steps", "part", "way", "room", "knot"]) (sc := defScope (top 29)) (by decide +kernel)) (fun _ _ _ _ _ => dg_tup rfl (dgs_cons (dg_name 2 (by simp) sc_circulated.nd rfl (by first | exact Or.inl rfl | exact Or.inr rfl)) (dgs_cons (dg_name 3 (by simp) sc_circulated.nd rfl (by first | exact Or.inl rfl | exact Or.inr rfl)) (dgs_cons (dg_name 4 (by simp) sc_circulated.nd rfl (by first | exact Or.inl rfl | exact Or.inr rfl)) (dgs_cons (dg_name 5 (by simp) sc_circulated.nd rfl (by first | exact Or.inl rfl | exact Or.inr rfl)) (dgs_nil)))))) (fun _ _ _ _ _ => dpts_nil) (fun _ _ _ _ _ => de_var 4 rfl)) (dss_one (ds_while PassesOwn.never (dt_val (de_bl)) (dss_cons (ds_set 7 sc_circulated.nd rfl (by first | exact Or.inl rfl | exact Or.inr rfl) (de_cR O_gathered (hr.mono (by decide)) (by rfl) (da_cons (de_var 0 rfl) (da_cons (de_var 6 rfl) (da_nil))))) (dss_cons (ds_setLc (own := [("knot", 15)]) 8 rfl sc_circulated.nd rfl rfl (sw_true rfl rfl rfl (by decide +kernel)) (di_it (de_var 7 rfl)) (blkOk_by (own := [("knot", 15)]) (N := ["pipes", "at", "tail", "head", "low", "width", "amounts", "more", "begins", "roads", "ends", "steps", "part", "way", "room", "knot"]) (sc := defScope (top 29)) (by decide +kernel)) (fun _ _ _ _ _ => dg_name 15 (by simp) sc_circulated.nd rfl (by first | exact Or.inl rfl | exact Or.inr rfl)) (fun _ _ _ _ _ => dpts_one (dt_cm cm_gt (de_ix hr.units (de_var 7 rfl) (de_var 15 rfl)) (de_int))) (fun _ _ _ _ _ => de_var 15 rfl)) (dss_cons (ds_if (dt_Eq (own := own0) (n := 1) pass0 (own0_all (k0 := 0)) (hr.mono (by decide)) (de_var 8 rfl) (de_lst (n := 0) (da_nil))) (dss_one (ds_ret (de_tup (n := 2) (da_cons (de_str) (da_cons (de_callTy (n := 1) call_tuple_of cd_tuple (by rfl) X0.g_tuple (by decide +kernel) (da_cons (de_var 6 rfl) (da_nil))) (da_nil)))))) (dss_nil)) (dss_cons (ds_set 9 sc_circulated.nd rfl (by first | exact Or.inl rfl | exact Or.inr rfl) (de_c [false, true, false] O_roads_from (hr.mono (by decide)) (by rfl) (da_cons (de_var 0 rfl) (da_cons (de_var 6 rfl) (da_cons (de_var 8 rfl) (da_nil)))))) (dss_cons (ds_setLc (own := [("knot", 15)]) 10 rfl sc_circulated.nd rfl rfl (sw_true rfl rfl rfl (by decide +kernel)) (di_it (de_var 9 rfl)) (blkOk_by (own := [("knot", 15)]) (N := ["pipes", "at", "tail", "head", "low", "width", "amounts", "more", "begins", "roads", "ends", "steps", "part", "way", "room", "knot"]) (sc := defScope (top 29)) (by decide +kernel)) (fun _ _ _ _ _ => dg_name 15 (by simp) sc_circulated.nd rfl (by first | exact Or.inl rfl | exact Or.inr rfl)) (fun _ _ _ _ _ => dpts_one (dt_cm cm_lt (de_ix hr.units (de_var 7 rfl) (de_var 15 rfl)) (de_int))) (fun _ _ _ _ _ => de_var 15 rfl)) (dss_cons (ds_if (dt_Eq (own := own0) (n := 1) pass0 (own0_all (k0 := 0)) (hr.mono (by decide)) (de_var 10 rfl) (de_lst (n := 0) (da_nil))) (dss_one (ds_ret (de_tup (n := 2) (da_cons (de_str) (da_cons (de_callTy (n := 1) call_tuple_of cd_tuple (by rfl) X0.g_tuple (by decide +kernel) (da_cons (de_lc (own := [("knot", 15)]) rfl sc_circulated.nd (di_it (de_var 7 rfl)) (blkOk_by (own := [("knot", 15)]) (N := ["pipes", "at", "tail", "head", "low", "width", "amounts", "more", "begins", "roads", "ends", "steps", "part", "way", "room", "knot"]) (sc := defScope (top 29)) (by decide +kernel)) (fun _ _ _ _ _ => dg_name 15 (by simp) sc_circulated.nd rfl (by first | exact Or.inl rfl | exact Or.inr rfl)) (fun _ _ _ _ _ => dpts_one (dt_cm (cm_nin hr.units) (de_var 15 rfl) (de_var 9 rfl))) (fun _ _ _ _ _ => de_var 15 rfl)) (da_nil))) (da_nil)))))) (dss_nil)) (dss_cons (ds_set 11 sc_circulated.nd rfl (by first | exact Or.inl rfl | exact Or.inr rfl) (de_ix hr.units (de_var 9 rfl) (de_ix hr.units (de_var 10 rfl) (de_int)))) (dss_cons (ds_set 12 sc_circulated.nd rfl (by first | exact Or.inl rfl | exact Or.inr rfl) (de_callB (n := 1) (cr_min rfl) cd_min (by rfl) X0.g_min (by decide +kernel) (da_cons (de_add (de_lst (n := 2) (da_cons (de_ix hr.units (de_var 7 rfl) (de_c [false, false] O_begun_at (hr.mono (by decide)) (by rfl) (da_cons (de_var 0 rfl) (da_cons (de_var 11 rfl) (da_nil))))) (da_cons (de_neg (de_ix hr.units (de_var 7 rfl) (de_ix hr.units (de_var 10 rfl) (de_int)))) (da_nil)))) (de_lc (own := [("at", 1), ("way", 13), ("room", 14)]) rfl sc_circulated.nd (di_it (de_var 11 rfl)) (blkOk_by (own := [("at", 1), ("way", 13), ("room", 14)]) (N := ["pipes", "at", "tail", "head", "low", "width", "amounts", "more", "begins", "roads", "ends", "steps", "part", "way", "room", "knot"]) (sc := defScope (top 29)) (by decide +kernel)) (fun _ _ _ _ _ => dg_tup rfl (dgs_cons (dg_name 1 (by simp) sc_circulated.nd rfl (by first | exact Or.inl rfl | exact Or.inr rfl)) (dgs_cons (dg_name 13 (by simp) sc_circulated.nd rfl (by first | exact Or.inl rfl | exact Or.inr rfl)) (dgs_cons (dg_name 14 (by simp) sc_circulated.nd rfl (by first | exact Or.inl rfl | exact Or.inr rfl)) (dgs_nil))))) (fun _ _ _ _ _ => dpts_nil) (fun _ _ _ _ _ => de_var 14 rfl))) (da_nil)))) (dss_one (ds_for (vs := [1, 13, 14]) PassesOwn.never rfl (di_it (de_var 11 rfl)) (dg_tup rfl (dgs_cons (dg_name 1 (by simp) sc_circulated.nd rfl (by first | exact Or.inl rfl | exact Or.inr rfl)) (dgs_cons (dg_name 13 (by simp) sc_circulated.nd rfl (by first | exact Or.inl rfl | exact Or.inr rfl)) (dgs_cons (dg_name 14 (by simp) sc_circulated.nd rfl (by first | exact Or.inl rfl | exact Or.inr rfl)) (dgs_nil))))) (dss_one (ds_augIx (g := (fun i j => i + j)) hr.units (de_var 6 rfl) (de_var 1 rfl) (de_mul (de_var 13 rfl) (de_var 12 rfl)) ip_add)))))))))))))))), fun args Qd la h => p_circulated args Qd Ed h⟩)
theorem ok_are_rounds (X0 : Fx K mg) (O_need_sizes : Ok P w K mg base 4 "need_sizes" ["names", "sizes"] s_need_sizes) (O_are_rounds_by : Ok P w K mg base 3 "are_rounds_by" ["pipes", "thing"] s_are_rounds_by) (O_numbers_at : Ok P w K mg base 2 "numbers_at" ["loop", "sizes"] s_numbers_at) {fd : FuncData} (F : FnP K "are_rounds" (top 30) (He.ga K "are_rounds") fd) (hm : mg "are_rounds" = some (.ref (He.ga K "are_rounds"))) : Ok P w K mg base 5 "are_rounds" ["loop", "sizes", "thing"] s_are_rounds :=
  Ok.of F (F.bindsN fun _ _ _ _ _ _ us hl => match us, hl with | [_, _, _], _ => rfl) hm (fn_D (k := 4) F sc_are_rounds rfl 0 rfl fun cdv A outer s H E G Ed hr hlk => ⟨b_are_rounds, dss_nox
    (dss_cons (ds_expr (de_c [false, false] O_need_sizes (hr.mono (by decide)) (by rfl) (da_cons (de_fld (cs := ["Loop"]) (f := "loop_names") X0.f_loop_names (de_var 0 rfl)) (da_cons (de_var 1 rfl) (da_nil))))) (dss_one (ds_ret (de_c [false, false] O_are_rounds_by (hr.mono (by decide)) (by rfl) (da_cons (de_c [false, false] O_numbers_at (hr.mono (by decide)) (by rfl) (da_cons (de_var 0 rfl) (da_cons (de_var 1 rfl) (da_nil)))) (da_cons (de_var 2 rfl) (da_nil))))))), fun args Qd la h => p_are_rounds args Qd Ed h⟩)
theorem ok_rounds_at (X0 : Fx K mg) (O_need_sizes : Ok P w K mg base 4 "need_sizes" ["names", "sizes"] s_need_sizes) (O_circulated : Ok P w K mg base 3 "circulated" ["pipes"] s_circulated) (O_numbers_at : Ok P w K mg base 2 "numbers_at" ["loop", "sizes"] s_numbers_at) {fd : FuncData} (F : FnP K "rounds_at" (top 31) (He.ga K "rounds_at") fd) (hm : mg "rounds_at" = some (.ref (He.ga K "rounds_at"))) : Ok P w K mg base 5 "rounds_at" ["loop", "sizes"] s_rounds_at :=
  Ok.of F (F.bindsN fun _ _ _ _ _ _ us hl => match us, hl with | [_, _], _ => rfl) hm (fn_D (k := 4) F sc_rounds_at rfl 1 rfl fun cdv A outer s H E G Ed hr hlk => ⟨b_rounds_at, dss_nox
    (dss_cons (ds_expr (de_c [false, false] O_need_sizes (hr.mono (by decide)) (by rfl) (da_cons (de_fld (cs := ["Loop"]) (f := "loop_names") X0.f_loop_names (de_var 0 rfl)) (da_cons (de_var 1 rfl) (da_nil))))) (dss_cons (ds_set 2 sc_rounds_at.nd rfl (by first | exact Or.inl rfl | exact Or.inr rfl) (de_c [false] O_circulated (hr.mono (by decide)) (by rfl) (da_cons (de_c [false, false] O_numbers_at (hr.mono (by decide)) (by rfl) (da_cons (de_var 0 rfl) (da_cons (de_var 1 rfl) (da_nil)))) (da_nil)))) (dss_one (ds_ret (de_ifExp (dt_Eq (own := own0) (n := 0) pass0 (own0_all (k0 := 0)) (hr.mono (by decide)) (de_ix hr.units (de_var 2 rfl) (de_int)) (de_str)) (de_var 2 rfl) (de_tup (n := 2) (da_cons (de_str) (da_cons (de_var 2 rfl) (da_nil))))))))), fun args Qd la h => p_rounds_at args Qd Ed h⟩)
theorem ok_law_mixed (X0 : Fx K mg) {fd : FuncData} (F : FnP K "_law_mixed" (top 34) (He.ga K "_law_mixed") fd) (hm : mg "_law_mixed" = some (.ref (He.ga K "_law_mixed"))) : Ok P w K mg base 1 "_law_mixed" ["state"] s_law_mixed :=
  Ok.of F (F.bindsN fun _ _ _ _ _ _ us hl => match us, hl with | [_], _ => rfl) hm (fn_D (k := 0) F sc_law_mixed rfl 5 rfl fun cdv A outer s H E G Ed hr hlk => ⟨b_law_mixed, dss_nox
    (dss_cons (ds_par 1 2 rfl sc_law_mixed.nd rfl rfl (by decide) rfl rfl (de_add (de_stI (turn := true) hr.units (pe_var (i := 0) rfl (by first | exact Or.inl rfl | exact Or.inr rfl)) pe_str (fun _ _ => rfl)) (de_int)) (de_int) (by rfl)) (dss_cons (ds_stP (turn := true) hr.units (de_var 1 rfl) (pe_var (i := 0) rfl (by first | exact Or.inl rfl | exact Or.inr rfl)) pe_str (by rfl)) (dss_cons (ds_for (vs := [3]) PassesOwn.never rfl (di_it (de_lst (n := 4) (da_cons (de_int) (da_cons (de_int) (da_cons (de_int) (da_cons (de_int) (da_nil))))))) (dg_name 3 (by simp) sc_law_mixed.nd rfl (by first | exact Or.inl rfl | exact Or.inr rfl)) (dss_cons (ds_set 4 sc_law_mixed.nd rfl (by first | exact Or.inl rfl | exact Or.inr rfl) (de_add (de_mul (de_int) (de_var 1 rfl)) (de_div (de_var 3 rfl) (de_int)))) (dss_cons (ds_for (vs := [5]) PassesOwn.never rfl (di_it (de_stC hr.units (pe_var (i := 0) rfl (by first | exact Or.inl rfl | exact Or.inr rfl)) pe_str (fun _ _ => rfl))) (dg_name 5 (by simp) sc_law_mixed.nd rfl (by first | exact Or.inl rfl | exact Or.inr rfl)) (dss_one (ds_set 4 sc_law_mixed.nd rfl (by first | exact Or.inl rfl | exact Or.inr rfl) (de_mod (de_callTy (n := 1) call_int1 cd_int (by rfl) X0.g_int (by decide +kernel) (da_cons (de_add (de_add (de_mul (de_var 4 rfl) (de_int)) (de_var 5 rfl)) (de_var 1 rfl)) (da_nil))) (de_var 3 rfl))))) (dss_one (ds_set 2 sc_law_mixed.nd rfl (by first | exact Or.inl rfl | exact Or.inr rfl) (de_add (de_mul (de_var 2 rfl) (de_int)) (de_mod (de_callTy (n := 1) call_int1 cd_int (by rfl) X0.g_int (by decide +kernel) (da_cons (de_pow (de_var 4 rfl) (de_int)) (da_nil))) (de_var 3 rfl)))))))) (dss_one (ds_ret (de_var 2 rfl)))))), fun args Qd la h => p_law_mixed args Qd Ed h⟩)
theorem ok_law_draw (X0 : Fx K mg) (O_law_mixed : Ok P w K mg base 1 "_law_mixed" ["state"] s_law_mixed) {fd : FuncData} (F : FnP K "_law_draw" (top 35) (He.ga K "_law_draw") fd) (hm : mg "_law_draw" = some (.ref (He.ga K "_law_draw"))) : Ok P w K mg base 2 "_law_draw" ["state", "room"] s_law_draw :=
  Ok.of F (F.bindsN fun _ _ _ _ _ _ us hl => match us, hl with | [_, _], _ => rfl) hm (fn_D (k := 1) F sc_law_draw rfl 1 rfl fun cdv A outer s H E G Ed hr hlk => ⟨b_law_draw, dss_nox
    (dss_cons (ds_if (dt_Eq (own := own0) (n := 0) pass0 (own0_all (k0 := 0)) (hr.mono (by decide)) (de_stI (turn := false) hr.units (pe_var (i := 0) rfl (by first | exact Or.inl rfl | exact Or.inr rfl)) pe_str (fun _ _ => rfl)) (de_int)) (dss_one (ds_stP (turn := false) hr.units (de_great (pc_great (k0 := 0) pass0 (hr.mono (by decide)) (pe_var (i := 0) rfl (by first | exact Or.inl rfl | exact Or.inr rfl)) pe_str (fun _ _ => rfl)) (by rfl) (pe_bm PySem.F.plainAttrs_list PySem.F.slot_list_pop PySem.F.type_list_pop mt_popAt (pe_stL (tmp := []) (F := fun _ => False) (env := []) (fp := fun _ => []) hr.units (pe_var (i := 0) rfl (by first | exact Or.inl rfl | exact Or.inr rfl)) pe_str (fun _ _ => rfl)) (pa_cons pe_int pa_nil)) (de_c [true] O_law_mixed (hr.mono (by decide)) (by rfl) (da_cons (de_var 0 rfl) (da_nil)))) (pe_var (i := 0) rfl (by first | exact Or.inl rfl | exact Or.inr rfl)) pe_str (by rfl))) (dss_nil)) (dss_cons (ds_set 2 sc_law_draw.nd rfl (by first | exact Or.inl rfl | exact Or.inr rfl) (de_mod (de_callTy (n := 1) call_int1 cd_int (by rfl) X0.g_int (by decide +kernel) (da_cons (de_stI (turn := false) hr.units (pe_var (i := 0) rfl (by first | exact Or.inl rfl | exact Or.inr rfl)) pe_str (fun _ _ => rfl)) (da_nil))) (de_var 1 rfl))) (dss_cons (ds_stP (turn := false) hr.units (de_div (de_stI (turn := false) hr.units (pe_var (i := 0) rfl (by first | exact Or.inl rfl | exact Or.inr rfl)) pe_str (fun _ _ => rfl)) (de_var 1 rfl)) (pe_var (i := 0) rfl (by first | exact Or.inl rfl | exact Or.inr rfl)) pe_str (by rfl)) (dss_one (ds_ret (de_var 2 rfl)))))), fun args Qd la h => p_law_draw args Qd Ed h⟩)
theorem ok_law_pick (X0 : Fx K mg) (O_law_draw : Ok P w K mg base 2 "_law_draw" ["state", "room"] s_law_draw) {fd : FuncData} (F : FnP K "_law_pick" (top 36) (He.ga K "_law_pick") fd) (hm : mg "_law_pick" = some (.ref (He.ga K "_law_pick"))) : Ok P w K mg base 3 "_law_pick" ["state", "some"] s_law_pick :=
  Ok.of F (F.bindsN fun _ _ _ _ _ _ us hl => match us, hl with | [_, _], _ => rfl) hm (fn_D (k := 2) F sc_law_pick rfl 0 rfl fun cdv A outer s H E G Ed hr hlk => ⟨b_law_pick, dss_nox
    (dss_one (ds_ret (de_ix hr.units (de_var 1 rfl) (de_c [true, false] O_law_draw (hr.mono (by decide)) (by rfl) (da_cons (de_var 0 rfl) (da_cons (de_callB (n := 1) cr_len cd_len (by rfl) X0.g_len boot_len (da_cons (de_var 1 rfl) (da_nil))) (da_nil))))))), fun args Qd la h => p_law_pick args Qd Ed h⟩)
theorem ok_law_shuffled (X0 : Fx K mg) (O_law_draw : Ok P w K mg base 2 "_law_draw" ["state", "room"] s_law_draw) {fd : FuncData} (F : FnP K "_law_shuffled" (top 37) (He.ga K "_law_shuffled") fd) (hm : mg "_law_shuffled" = some (.ref (He.ga K "_law_shuffled"))) : Ok P w K mg base 3 "_law_shuffled" ["state", "some"] s_law_shuffled :=
  Ok.of F (F.bindsN fun _ _ _ _ _ _ us hl => match us, hl with | [_, _], _ => rfl) hm (fn_D (k := 2) F sc_law_shuffled rfl 2 rfl fun cdv A outer s H E G Ed hr hlk => ⟨b_law_shuffled, dss_nox
    (dss_cons (ds_par 2 3 rfl sc_law_shuffled.nd rfl rfl (by decide) rfl rfl (de_callTy (n := 1) (cr_list rfl) cd_list (by rfl) X0.g_list (by decide +kernel) (da_cons (de_var 1 rfl) (da_nil))) (de_lst (n := 0) (da_nil)) (by rfl)) (dss_cons (ds_while PassesOwn.never (dt_NotEq (own := own0) (n := 1) pass0 (own0_all (k0 := 0)) (hr.mono (by decide)) (de_var 2 rfl) (de_lst (n := 0) (da_nil))) (dss_one (ds_expr (de_append (n := 1) (de_var 3 rfl) (da_cons (de_popAt (n := 1) (de_var 2 rfl) (da_cons (de_c [true, false] O_law_draw (hr.mono (by decide)) (by rfl) (da_cons (de_var 0 rfl) (da_cons (de_callB (n := 1) cr_len cd_len (by rfl) X0.g_len boot_len (da_cons (de_var 2 rfl) (da_nil))) (da_nil)))) (da_nil))) (da_nil)))))) (dss_one (ds_ret (de_var 3 rfl))))), fun args Qd la h => p_law_shuffled args Qd Ed h⟩)
theorem ok_law_some_knots (X0 : Fx K mg) (O_law_shuffled : Ok P w K mg base 3 "_law_shuffled" ["state", "some"] s_law_shuffled) (O_law_draw : Ok P w K mg base 2 "_law_draw" ["state", "room"] s_law_draw) {fd : FuncData} (F : FnP K "_law_some_knots" (top 40) (He.ga K "_law_some_knots") fd) (hm : mg "_law_some_knots" = some (.ref (He.ga K "_law_some_knots"))) : Ok P w K mg base 4 "_law_some_knots" ["state", "most"] s_law_some_knots :=
  Ok.of F (F.bindsN fun _ _ _ _ _ _ us hl => match us, hl with | [_, _], _ => rfl) hm (fn_D (k := 3) F sc_law_some_knots rfl 0 rfl fun cdv A outer s H E G Ed hr hlk => ⟨b_law_some_knots, dss_nox
    (dss_one (ds_ret (de_slice (de_c [true, false] O_law_shuffled (hr.mono (by decide)) (by rfl) (da_cons (de_var 0 rfl) (da_cons (de_lst (n := 6) (da_cons (de_str) (da_cons (de_str) (da_cons (de_str) (da_cons (de_str) (da_cons (de_str) (da_cons (de_str) (da_nil)))))))) (da_nil)))) (do_none) (do_some (de_add (de_int) (de_c [true, false] O_law_draw (hr.mono (by decide)) (by rfl) (da_cons (de_var 0 rfl) (da_cons (de_sub (de_var 1 rfl) (de_int)) (da_nil))))))))), fun args Qd la h => p_law_some_knots args Qd Ed h⟩)
theorem ok_law_knots (X0 : Fx K mg) {fd : FuncData} (F : FnP K "_law_knots" (top 41) (He.ga K "_law_knots") fd) (hm : mg "_law_knots" = some (.ref (He.ga K "_law_knots"))) : Ok P w K mg base 1 "_law_knots" ["pipes"] s_law_knots :=
  Ok.of F (F.bindsN fun _ _ _ _ _ _ us hl => match us, hl with | [_], _ => rfl) hm (fn_D (k := 0) F sc_law_knots rfl 2 rfl fun cdv A outer s H E G Ed hr hlk => ⟨b_law_knots, dss_nox
    (dss_cons (ds_set 1 sc_law_knots.nd rfl (by first | exact Or.inl rfl | exact Or.inr rfl) (de_dict0)) (dss_cons (ds_for (vs := [2]) PassesOwn.never rfl (di_it (de_var 0 rfl)) (dg_name 2 (by simp) sc_law_knots.nd rfl (by first | exact Or.inl rfl | exact Or.inr rfl)) (dss_cons (ds_put hr.units (de_bl) (de_var 1 rfl) (de_ix hr.units (de_var 2 rfl) (de_int))) (dss_one (ds_put hr.units (de_bl) (de_var 1 rfl) (de_ix hr.units (de_var 2 rfl) (de_int)))))) (dss_one (ds_ret (de_callB (n := 1) (cr_sortA rfl) cd_sorted (by rfl) X0.g_sorted (by decide +kernel) (da_cons (de_var 1 rfl) (da_nil))))))), fun args Qd la h => p_law_knots args Qd Ed h⟩)
theorem ok_law_tried (X0 : Fx K mg) {fd : FuncData} (F : FnP K "_law_tried" (top 42) (He.ga K "_law_tried") fd) (hm : mg "_law_tried" = some (.ref (He.ga K "_law_tried"))) : Ok P w K mg base 1 "_law_tried" ["pipes"] s_law_tried :=
  Ok.of F (F.bindsN fun _ _ _ _ _ _ us hl => match us, hl with | [_], _ => rfl) hm (fn_D (k := 0) F sc_law_tried rfl 8 rfl fun cdv A outer s H E G Ed hr hlk => ⟨b_law_tried, dss_nox
    (dss_cons (ds_set 1 sc_law_tried.nd rfl (by first | exact Or.inl rfl | exact Or.inr rfl) (de_lst (n := 1) (da_cons (de_tup (n := 0) (da_nil)) (da_nil)))) (dss_cons (ds_for (vs := [2, 3, 4, 5]) PassesOwn.never rfl (di_it (de_var 0 rfl)) (dg_tup rfl (dgs_cons (dg_name 2 (by simp) sc_law_tried.nd rfl (by first | exact Or.inl rfl | exact Or.inr rfl)) (dgs_cons (dg_name 3 (by simp) sc_law_tried.nd rfl (by first | exact Or.inl rfl | exact Or.inr rfl)) (dgs_cons (dg_name 4 (by simp) sc_law_tried.nd rfl (by first | exact Or.inl rfl | exact Or.inr rfl)) (dgs_cons (dg_name 5 (by simp) sc_law_tried.nd rfl (by first | exact Or.inl rfl | exact Or.inr rfl)) (dgs_nil)))))) (dss_cons (ds_set 6 sc_law_tried.nd rfl (by first | exact Or.inl rfl | exact Or.inr rfl) (de_lst (n := 0) (da_nil))) (dss_cons (ds_for (vs := [7]) PassesOwn.never rfl (di_it (de_var 1 rfl)) (dg_name 7 (by simp) sc_law_tried.nd rfl (by first | exact Or.inl rfl | exact Or.inr rfl)) (dss_one (ds_set 6 sc_law_tried.nd rfl (by first | exact Or.inl rfl | exact Or.inr rfl) (de_add (de_var 6 rfl) (de_lc (own := [("amount", 8)]) rfl sc_law_tried.nd (di_range2 (n := 2) (by rfl) X0.g_range (da_cons (de_var 4 rfl) (da_cons (de_add (de_var 5 rfl) (de_int)) (da_nil)))) (blkOk_by (own := [("amount", 8)]) (N := ["pipes", "found", "tail", "head", "low", "width", "longer", "one", "amount"]) (sc := defScope (top 42)) (by decide +kernel)) (fun _ _ _ _ _ => dg_name 8 (by simp) sc_law_tried.nd rfl (by first | exact Or.inl rfl | exact Or.inr rfl)) (fun _ _ _ _ _ => dpts_nil) (fun _ _ _ _ _ => de_add (de_var 7 rfl) (de_tup (n := 1) (da_cons (de_var 8 rfl) (da_nil))))))))) (dss_one (ds_set 1 sc_law_tried.nd rfl (by first | exact Or.inl rfl | exact Or.inr rfl) (de_var 6 rfl)))))) (dss_one (ds_ret (de_var 1 rfl))))), fun args Qd la h => p_law_tried args Qd Ed h⟩)
theorem ok_law_is_even (X0 : Fx K mg) (O_law_knots : Ok P w K mg base 1 "_law_knots" ["pipes"] s_law_knots) {fd : FuncData} (F : FnP K "_law_is_even" (top 43) (He.ga K "_law_is_even") fd) (hm : mg "_law_is_even" = some (.ref (He.ga K "_law_is_even"))) : Ok P w K mg base 2 "_law_is_even" ["pipes", "amounts"] s_law_is_even :=
  Ok.of F (F.bindsN fun _ _ _ _ _ _ us hl => match us, hl with | [_, _], _ => rfl) hm (fn_D (k := 1) F sc_law_is_even rfl 4 rfl fun cdv A outer s H E G Ed hr hlk => ⟨b_law_is_even, dss_nox
    (dss_cons (ds_for (vs := [2]) PassesOwn.never rfl (di_it (de_c [false] O_law_knots (hr.mono (by decide)) (by rfl) (da_cons (de_var 0 rfl) (da_nil)))) (dg_name 2 (by simp) sc_law_is_even.nd rfl (by first | exact Or.inl rfl | exact Or.inr rfl)) (dss_cons (ds_set 3 sc_law_is_even.nd rfl (by first | exact Or.inl rfl | exact Or.inr rfl) (de_callB (n := 1) (cr_sum rfl) cd_sum (by rfl) X0.g_sum (by decide +kernel) (da_cons (de_lc (own := [("pipe", 4), ("one", 5)]) rfl sc_law_is_even.nd (di_zip (n := 2) (by rfl) X0.g_zip (da_cons (de_var 0 rfl) (da_cons (de_var 1 rfl) (da_nil)))) (blkOk_by (own := [("pipe", 4), ("one", 5)]) (N := ["pipes", "amounts", "knot", "into", "pipe", "one"]) (sc := defScope (top 43)) (by decide +kernel)) (fun _ _ _ _ _ => dg_tup rfl (dgs_cons (dg_name 4 (by simp) sc_law_is_even.nd rfl (by first | exact Or.inl rfl | exact Or.inr rfl)) (dgs_cons (dg_name 5 (by simp) sc_law_is_even.nd rfl (by first | exact Or.inl rfl | exact Or.inr rfl)) (dgs_nil)))) (fun _ _ _ _ _ => dpts_one (dt_Eq (own := own0) (n := 0) pass0 (own0_all (k0 := 0)) (hr.mono (by decide)) (de_ix hr.units (de_var 4 rfl) (de_int)) (de_var 2 rfl))) (fun _ _ _ _ _ => de_var 5 rfl)) (da_nil)))) (dss_one (ds_if (dt_NotEq (own := own0) (n := 0) pass0 (own0_all (k0 := 0)) (hr.mono (by decide)) (de_var 3 rfl) (de_callB (n := 1) (cr_sum rfl) cd_sum (by rfl) X0.g_sum (by decide +kernel) (da_cons (de_lc (own := [("pipe", 4), ("one", 5)]) rfl sc_law_is_even.nd (di_zip (n := 2) (by rfl) X0.g_zip (da_cons (de_var 0 rfl) (da_cons (de_var 1 rfl) (da_nil)))) (blkOk_by (own := [("pipe", 4), ("one", 5)]) (N := ["pipes", "amounts", "knot", "into", "pipe", "one"]) (sc := defScope (top 43)) (by decide +kernel)) (fun _ _ _ _ _ => dg_tup rfl (dgs_cons (dg_name 4 (by simp) sc_law_is_even.nd rfl (by first | exact Or.inl rfl | exact Or.inr rfl)) (dgs_cons (dg_name 5 (by simp) sc_law_is_even.nd rfl (by first | exact Or.inl rfl | exact Or.inr rfl)) (dgs_nil)))) (fun _ _ _ _ _ => dpts_one (dt_Eq (own := own0) (n := 0) pass0 (own0_all (k0 := 0)) (hr.mono (by decide)) (de_ix hr.units (de_var 4 rfl) (de_int)) (de_var 2 rfl))) (fun _ _ _ _ _ => de_var 5 rfl)) (da_nil)))) (dss_one (ds_ret (de_bl))) (dss_nil))))) (dss_one (ds_ret (de_bl)))), fun args Qd la h => p_law_is_even args Qd Ed h⟩)
theorem ok_none {x : Str} {st : Stmt} {fd : FuncData} {ps : List Str} (F : FnP K x st (He.ga K x) fd) (b : Binds K fd ps []) (hm : mg x = some (.ref (He.ga K x))) : Ok P w K mg base 0 x ps (fun _ _ _ => False) :=
  Ok.of F b hm ⟨fun vs H Q E h => (by obtain ⟨_, _, _, _, _, _, _, h⟩ := h; exact h.sem.elim), fun A out s H args us vs Q E _ _ _ _ h => (by obtain ⟨_, _, _, _, _, _, _, h⟩ := h; exact h.sem.elim)⟩
theorem ok_law_plain_s (X0 : Fx K mg) (n : Nat) (O_law_plain : Ok P w K mg base (n + 1) "_law_plain" ["thing_here"] (sP n)) {fd : FuncData} (F : FnP K "_law_plain" (top 38) (He.ga K "_law_plain") fd) (hm : mg "_law_plain" = some (.ref (He.ga K "_law_plain"))) : Ok P w K mg base (n + 2) "_law_plain" ["thing_here"] (sP (n + 1)) :=
  Ok.of F (F.bindsN fun _ _ _ _ _ _ us hl => match us, hl with | [_], _ => rfl) hm (fn_D (k := n + 1) F sc_law_plain rfl 1 rfl fun cdv A outer s H E G Ed hr hlk => ⟨b_law_plain n, dss_nox
    (dss_cons (ds_if (dt_val (de_isiT X0.i_list_tuple (.ty "list") (.ty "tuple") (by rfl) X0.g_isinstance (de_var 0 rfl) (pe_tup (pa_cons (pe_bltn (by rfl) X0.g_list (by decide +kernel) rfl) (pa_cons (pe_bltn (by rfl) X0.g_tuple (by decide +kernel) rfl) pa_nil))))) (dss_one (ds_ret (de_Eq (own := own0) (n := 1) pass0 (own0_all (k0 := 0)) (hr.mono (by omega)) (de_lc (own := [("one", 1)]) rfl sc_law_plain.nd (di_it (de_var 0 rfl)) (blkOk_by (own := [("one", 1)]) (N := ["thing_here", "one"]) (sc := defScope (top 38)) (by decide +kernel)) (fun _ _ _ _ _ => dg_name 1 (by simp) sc_law_plain.nd rfl (by first | exact Or.inl rfl | exact Or.inr rfl)) (fun _ _ _ _ _ => dpts_one (dt_not (dt_val (de_c [false] O_law_plain (hr.mono (Nat.le_refl _)) (by rfl) (da_cons (de_var 1 rfl) (da_nil)))))) (fun _ _ _ _ _ => de_int)) (de_lst (n := 0) (da_nil))))) (dss_nil)) (dss_cons (ds_if (dt_val (de_isi X0.i_dict (.ty "dict") (by rfl) X0.g_isinstance (de_var 0 rfl) (pe_bltn (by rfl) X0.g_dict (by decide +kernel) rfl))) (dss_one (ds_never)) (dss_nil)) (dss_one (ds_ret (de_or (de_cm cm_is (de_var 0 rfl) (de_non)) (de_one (de_isiT X0.i_int_str (.ty "int") (.ty "str") (by rfl) X0.g_isinstance (de_var 0 rfl) (pe_tup (pa_cons (pe_bltn (by rfl) X0.g_int (by decide +kernel) rfl) (pa_cons (pe_bltn (by rfl) X0.g_str (by decide +kernel) rfl) pa_nil)))))))))), fun args Qd la h => p_law_plain n args Qd Ed h⟩)
theorem ok_law_plain (X0 : Fx K mg) {fd : FuncData} (F : FnP K "_law_plain" (top 38) (He.ga K "_law_plain") fd) (hm : mg "_law_plain" = some (.ref (He.ga K "_law_plain"))) : ∀ n, Ok P w K mg base (n + 1) "_law_plain" ["thing_here"] (sP n)
  | 0 => (ok_none F (F.bindsN fun _ _ _ _ _ _ us hl => match us, hl with | [_], _ => rfl) hm).mono (by decide)
  | n + 1 => ok_law_plain_s X0 n (ok_law_plain X0 F hm n) F hm
theorem ok_law_is (X0 : Fx K mg) (O_law_plain : ∀ n, Ok P w K mg base (n + 1) "_law_plain" ["thing_here"] (sP n)) {fd : FuncData} (F : FnP K "_law_is" (top 39) (He.ga K "_law_is") fd) (hm : mg "_law_is" = some (.ref (He.ga K "_law_is"))) : OkG P w K mg base 5 "_law_is" ["found", "due"] s_law_is :=
  ⟨⟨fd, fn_DG (k := 4) F sc_law_is rfl 0 rfl fun cdv A outer s H E G Ed gd hr hlk => ⟨b_law_is, dss_nox
    (dss_one (ds_ret (de_and (de_c [false] (O_law_plain 3) (hr.mono (by decide)) (by rfl) (da_cons (de_var 0 rfl) (da_nil))) (de_and (de_Eq (own := own0) (n := 3) pass0 (own0_all (k0 := 0)) (hr.mono (by decide)) (de_var 0 rfl) (de_var 1 rfl)) (de_and (de_Eq (own := own0) (n := 3) pass0 (own0_all (k0 := 0)) (hr.mono (by decide)) (de_var 1 rfl) (de_var 0 rfl)) (de_one (de_Eq (own := own0) (n := 0) pass0 (own0_all (k0 := 0)) (hr.mono (by decide)) (de_callB (n := 1) (cr_repr gd hr.units) cd_repr (by rfl) X0.g_repr (by decide +kernel) (da_cons (de_var 0 rfl) (da_nil))) (de_callB (n := 1) (cr_repr gd hr.units) cd_repr (by rfl) X0.g_repr (by decide +kernel) (da_cons (de_var 1 rfl) (da_nil)))))))))), fun args Qd la h => p_law_is args Qd Ed h⟩, F.bindsN fun _ _ _ _ _ _ us hl => match us, hl with | [_, _], _ => rfl⟩, F.kp, hm⟩
theorem sc_law_begun : FnScope ["script", "great", "cell"] ["script"] (defScope (top 33)) := ⟨rfl, rfl, rfl, by decide +kernel, rfl, by decide +kernel, by decide +kernel⟩
theorem ok_law_begun (X0 : Fx K mg) {f : Addr} {fd : FuncData} (F : FnP K "_law_begun" (top 33) f fd) : FnOk P w K mg base (L2.CX P w) 1 f fd ["script"] (spBegun K) :=
  F.ok sc_law_begun (fun vs H Q E h => (by obtain ⟨a, ns, rfl, _⟩ := h; rfl)) fun cdv A outer s H vs Q E hr h => ⟨bgT K, PSs.nox (pss_cons (ps_setLc (own := [("cell", 2)]) rfl sc_law_begun.nd rfl rfl (sw_true rfl rfl rfl (by decide +kernel)) (pi_list (pe_var (i := 0) rfl (by first | exact Or.inl rfl | exact Or.inr (Or.inl rfl) | exact Or.inr (Or.inr rfl)))) (blkOk_by (own := [("cell", 2)]) (N := ["script", "great", "cell"]) (sc := defScope (top 33)) (by decide +kernel)) (fun _ _ _ _ _ => pg_name sc_law_begun.nd rfl (by first | exact Or.inl rfl | exact Or.inr rfl)) (fun _ _ _ _ _ => pts_one (pt_cmpR op_ge (pe_callB call_abs (by rfl) X0.g_abs (by decide +kernel) (pa_cons (pe_var (i := 2) rfl (by first | exact Or.inl rfl | exact Or.inr (Or.inl rfl) | exact Or.inr (Or.inr rfl))) pa_nil)) (pe_op op_pow pe_int pe_int) (nomark _))) (fun _ _ _ _ _ => pe_op op_sub (pe_callB call_abs (by rfl) X0.g_abs (by decide +kernel) (pa_cons (pe_var (i := 2) rfl (by first | exact Or.inl rfl | exact Or.inr (Or.inl rfl) | exact Or.inr (Or.inr rfl))) pa_nil)) (pe_op op_pow pe_int pe_int))) (pss_one (ps_ret (pe_disp (pps_cons pe_str (pe_var (i := 1) rfl (by first | exact Or.inl rfl | exact Or.inr (Or.inl rfl))) (pps_cons pe_str (pe_lc (own := [("cell", 2)]) rfl sc_law_begun.nd (pi_list (pe_var (i := 0) rfl (by first | exact Or.inl rfl | exact Or.inr (Or.inl rfl) | exact Or.inr (Or.inr rfl)))) (blkOk_by (own := [("cell", 2)]) (N := ["script", "great", "cell"]) (sc := defScope (top 33)) (by decide +kernel)) (fun _ _ _ _ _ => pg_name sc_law_begun.nd rfl (by first | exact Or.inl rfl | exact Or.inr rfl)) (fun _ _ _ _ _ => pts_nil) (fun _ _ _ _ _ => (pe_callB call_abs (by rfl) X0.g_abs (by decide +kernel) (pa_cons (pe_var (i := 2) rfl (by first | exact Or.inl rfl | exact Or.inr (Or.inl rfl) | exact Or.inr (Or.inr rfl))) pa_nil)))) (pps_cons pe_str pe_int (pps_cons pe_str pe_int pps_nil)))) rfl rfl (by simp) (by decide))))), by
    obtain ⟨a, ns, rfl, hs, hl, q⟩ := h
    exact bg_plain hs hl rfl q⟩

end K28
namespace DL
open PySem PySem.Spec PyProof.Rows L2
section
variable {we wa wb wc : WE} {wt : WT} {wr : WA} {wi : WI} {env env1 env2 : EnvD} {r : R} {d : D} {f : D → D} {c : D → Bool} {Q : R → EnvD → Prop} {w : WS} {De : DEnds} {i j : Nat}
theorem tup_w (h : wr env fun rs e => fzs rs e fun ds e2 => Q (.sh (.tup ds)) e2) : wTup wr env Q := h
theorem lst_w (h : wr env fun rs e => fzs rs e fun ds e2 => Q (.fr (.lst ds)) e2) : wLst wr env Q := h
theorem Ev.cat {ra rb : R} {xs ys : List D} (ha : Ev wa env ra env1) (hb : Ev wb env1 rb env2) (pa : pk env2 ra = some (.lst xs)) (pb : pk env2 rb = some (.lst ys)) (hl : xs.length + ys.length ≤ sizeLine) : Ev (wB fAdd wa wb) env (.fr (.lst (xs ++ ys))) env2 := Ev.B ha hb pa pb fun _ q => ⟨hl, q⟩
theorem Ev.rng {j : Int} (h : Ev wa env (.sh (.int j)) env1) (h1 : -(2 ^ 62) ≤ j) (h2 : j < 2 ^ 62) : Iv (wRng1 (wCons wa wNil)) env (rangeD 0 j) env1 := fun Q q => (Av.sh h Av.nil) _ ⟨h1, h2, q⟩
theorem rangeD_len (j : Nat) : (rangeD 0 (j : Int)).length = j := by simp [rangeD]
theorem par_w (h : wa env fun ra e1 => fzk ra e1 fun ra' e2 => wb e2 fun rb e3 => fzk rb e3 fun rb' e4 => i < e4.length ∧ j < e4.length ∧ w ((e4.set i (slOf ra')).set j (slOf rb')) De) : sSeq (sPar i j wa wb) w env De := h
theorem call_w {sem : Sem} {ms : List Bool} {Ed : XD → EnvD → Prop} (h : wr env fun rs e1 => fzm ms rs e1 fun as e2 => (ixs as).Nodup ∧ as.all (okA e2) = true ∧ sem ((as ++ ([] : List D).map Ar.im).map (arSl e2)) (fun r args => outR (fun r e => Q r e) r (putBack e2 (as ++ ([] : List D).map Ar.im) args)) (fun x args => Ed x (putBack e2 (as ++ ([] : List D).map Ar.im) (args.take (as.length + ([] : List D).length))))) : wCall sem ms [] wr Ed env Q := h
theorem B_w {f : Op2} (h : wa env fun ra e1 => wb e1 fun rb e2 => match pk e2 ra, pk e2 rb with
  | some da, some db => f da db fun r => Q r e2
  | _, _ => False) : wB f wa wb env Q := h
theorem rng_w {Q : List D → EnvD → Prop} (h : wr env fun rs e1 => match pks e1 rs with
  | some [.int j] => -(2 ^ 62) ≤ j ∧ j < 2 ^ 62 ∧ Q (rangeD 0 j) e1
  | _ => False) : wRng1 wr env Q := h
theorem it_w {Q : List D → EnvD → Prop} (h : we env fun r e1 => fz r e1 fun d e2 => match itemsD d with
  | some ds => Q ds e2
  | none => False) : wIt we env Q := h
theorem lc_w {wg : WG} {vs : List Nat} (h : wi env fun ds e1 => okW e1 vs ∧ lcGo wg wt we vs ds [] (wipeE e1 vs) fun acc e2 => e2.length = e1.length ∧ Q (.fr (.lst acc)) (unw e1 e2 vs)) : wLc wi wg wt we vs env Q := h
theorem make_w {c : Str} {sem : Sem} {ms : List Bool} (h : wr env fun rs e1 => fzm ms rs e1 fun as e2 => (ixs as).Nodup ∧ as.all (okA e2) = true ∧ sem (.pm (.ins c []) :: (as ++ ([] : List D).map Ar.im).map (arSl e2)) (makeQ Q e2 (as ++ ([] : List D).map Ar.im)) (fun x args => Ed x (putBack e2 (as ++ ([] : List D).map Ar.im) ((args.take (as.length + ([] : List D).length + 1)).drop 1)))) : wMake c sem ms [] wr Ed env Q := h
theorem sl_w {wl wh : WO} (h : we env fun r e1 => wl e1 fun lo e2 => wh e2 fun hi e3 => match pk e3 r with
  | some d => fSl d lo hi fun r' => Q r' e3
  | none => False) : wSl we wl wh env Q := h
theorem app_w {xs : List D} (hi : env[i]? = some (.ow (.lst xs))) (h : wr env fun rs e2 => fzs rs e2 fun ds e3 => match R.br i, ds with
  | .br i, [d] => (match pk e3 (.br i) with
    | some (.lst xs) => xs.length < sizeLine ∧ De.nx (setD e3 i (.lst (xs ++ [d])))
    | _ => False)
  | _, _ => False) : sDrop (wApp (wVar i) wr) env De := by
  unfold sDrop wApp
  refine Ev.varO hi _ ⟨⟨xs, ?_⟩, h⟩
  show (match env[i]? with | some (.ow d) => some d | some (.pm d) => some d | _ => none) = _
  rw [hi]
theorem Ev.neB {own : Str → Option Str} {n : Nat} {b c : Bool} (ha : Ev wa env (.sh (.bl b)) env1) (hb : Ev wb env1 (.sh (.bl c)) env2) : Ev (wNe own n wa wb) env (.sh (.bl (!(b == c)))) env2 :=
  Ev.eqX (ng := true) (b := (b == c)) ha hb rfl rfl (fun h => nomatch h) (fun h => nomatch h) ⟨(fun v w hv hw => by cases hv; cases hw; rfl), fun _ e => nomatch e⟩ (eqN_up (n := 0) ⟨_, _, rfl, rfl, (by cases b <;> cases c <;> rfl)⟩ (Nat.zero_le _))
/-- xs[:k] -/
theorem cutD_to {xs : List D} {k : Nat} : DL.cutD xs none (some (k : Int)) = xs.take k := by
  unfold DL.cutD
  rw [HT.sIx_none, HT.sIx_nat]
  by_cases h : k ≤ xs.length
  · rw [Nat.min_eq_left h]
    simp
  · rw [Nat.min_eq_right (by omega), List.take_of_length_le (Nat.le_of_lt (Nat.lt_of_not_le h))]
    simp
end
end DL
namespace K28
open PySem PySem.Spec PyProof.Rows L2 DL
def PartsOk (ps : List (Str × Int)) : Prop := (ps.map (·.1)).Nodup ∧ (∀ p ∈ ps, nameOk p.1 = true ∧ 0 < p.2) ∧ ps.length < 60
def ItemOf (names knots : List Str) (y : D) : Prop := ∃ a b lo wi, y = .tup [.str a, .str b, mkSum lo, mkSum wi] ∧ a ≠ b ∧ a ∈ knots ∧ b ∈ knots ∧ PartsOk lo ∧ PartsOk wi ∧ (∀ p ∈ lo, p.1 ∈ names) ∧ ∀ p ∈ wi, p.1 ∈ names
theorem sn_mk (ps : List (Str × Int)) : sumNames (mkSum ps) = ps.map (·.1) := by
  show (dK ps).filterMap _ = _
  unfold dK
  rw [List.filterMap_map]
  exact List.filterMap_eq_map' ▸ rfl
theorem okItem {a b : Str} {lo wi : List (Str × Int)} (ha : a.length ≤ sizeLine) (hb : b.length ≤ sizeLine) (h1 : PartsOk lo) (h2 : PartsOk wi) : OkItem (.tup [.str a, .str b, mkSum lo, mkSum wi]) := by
  refine ⟨rfl, fun ds e y hy => ?_⟩
  cases e
  rcases List.mem_cons.mp hy with rfl | hy
  · exact ⟨decide_eq_true ha, fun z => (nomatch z)⟩
  rcases List.mem_cons.mp hy with rfl | hy
  · exact ⟨decide_eq_true hb, fun z => (nomatch z)⟩
  rcases List.mem_cons.mp hy with rfl | hy
  · exact ⟨rfl, fun _ => ⟨lo, rfl, h1.1, h1.2.2⟩⟩
  rw [List.mem_singleton.mp hy]
  exact ⟨rfl, fun _ => ⟨wi, rfl, h2.1, h2.2.2⟩⟩
theorem nm_len {x : Str} (h : nameOk x = true) : x.length ≤ sizeLine := by
  have := nmOk_of h
  unfold nmOk at this
  rw [Bool.and_eq_true] at this
  have l := of_decide_eq_true this.1
  exact Nat.le_of_lt (small_line (by omega))
theorem pipe_is {a b : Str} {lo wi : List (Str × Int)} (ha : nameOk a = true) (hb : nameOk b = true) (h : a ≠ b) : isPipe (.tup [.str a, .str b, mkSum lo, mkSum wi]) = true := by
  have e : isPipe (.tup [.str a, .str b, mkSum lo, mkSum wi]) = (nameOk a && nameOk b && !decide (a = b) && true && true) := rfl
  rw [e, ha, hb, decide_eq_false h]
  rfl
section
variable {we wa wb : WE} {wr : WA} {env env1 env2 : EnvD} {r : R} {d : D} {Q : R → EnvD → Prop} {Ed : XD → EnvD → Prop} {names knots : List Str} {xs ys : List D} {y : D} {ks ns : List Str}
structure LpOk (xs : List D) : Prop where
  it : ∀ x ∈ xs, OkItem x
  len : xs.length ≤ 30
  no : firstWrong xs = none
  nm : (ddp (namesL xs)).length ≤ 40
theorem mk_loopN (h : Ev we env r env1) (hz : ∀ P : D → EnvD → Prop, P d env2 → fz r.hold env1 P) (hd : d = .lst xs ∨ d = .tup xs) (ok : LpOk xs) (q : ∀ ks ns, Just (endsL xs) ks → Just (namesL xs) ns → Q (.fr (mkLoop xs ks ns)) env2) : wMake "Loop" s_Loop_init [false] [] (wCons we wNil) Ed env Q := by
  refine (Av.cons h Av.nil) _ (hz _ ⟨List.nodup_nil, rfl, d, rfl, ?_, .inr ⟨xs, hd, ok.it, ok.len, .inr ⟨ok.no, ok.nm, fun ks ns hk hn => q ks ns hk hn⟩⟩⟩)
  rcases hd with rfl | rfl <;> rfl
theorem just_one {zs xs ys : List Str} (h : Just zs xs) (g : Just zs ys) : xs = ys := sorted_one h.1 g.1 h.2.1 g.2.1 fun z => (h.2.2 z).trans (g.2.2 z).symm
theorem mk_loop (h : Ev we env r env1) (hz : ∀ P : D → EnvD → Prop, P d env2 → fz r.hold env1 P) (hd : d = .lst xs ∨ d = .tup xs) (ok : LpOk xs) (hk : Just (endsL xs) ks) (hn : Just (namesL xs) ns) : Ev (wMake "Loop" s_Loop_init [false] [] (wCons we wNil) Ed) env (.fr (mkLoop xs ks ns)) env2 := fun Q q =>
  mk_loopN h hz hd ok fun ks2 ns2 hk2 hn2 => by
    rw [just_one hk2 hk, just_one hn2 hn]
    exact q
theorem draw1 {n : Nat} {room : Int} {s0 : Sl} {tl : EnvD} (hr : Ev we (s0 :: .st (n + 1) :: tl) (.sh (.int room)) (s0 :: .st (n + 1) :: tl)) (h0 : 0 < room) (h1 : room < 1000000) (q : ∀ i : Nat, (i : Int) < room → Q (.sh (.int i)) (s0 :: .st n :: tl)) :
    wCall s_law_draw [true, false] [] (wCons (wVar 1) (wCons we wNil)) (fun _ _ => False) (s0 :: .st (n + 1) :: tl) Q :=
  Av.br (.varS rfl) (.sh hr .nil) _ ⟨by simp [ixs], rfl, n, room, rfl, h0, h1, fun i hi => q i hi⟩
theorem pick1 {n : Nat} {s0 : Sl} {tl : EnvD} {Ex : XD → EnvD → Prop} (h1 : env[1]? = some (.st (n + 1))) (hr : Ev we env r env1) (hz : ∀ P : D → EnvD → Prop, P (.lst xs) (s0 :: .st (n + 1) :: tl) → fz r.hold env1 P) (h0 : xs ≠ []) (hl : xs.length < 1000000) (q : ∀ x ∈ xs, Q (.sh x) (s0 :: .st n :: tl)) :
    wCall s_law_pick [true, false] [] (wCons (wVar 1) (wCons we wNil)) Ex env Q :=
  Av.br (.varS h1) (.cons hr .nil) _ (hz _ ⟨by simp [ixs], rfl, n, xs, rfl, h0, hl, fun x hx => q x hx⟩)
theorem ItemOf.pipe (h : ItemOf names knots y) (kn : ∀ x ∈ knots, nameOk x = true) : isPipe y = true := by
  obtain ⟨a, b, lo, wi, rfl, ne, ha, hb, _⟩ := h
  exact pipe_is (kn a ha) (kn b hb) ne
theorem ItemOf.ok (h : ItemOf names knots y) (kn : ∀ x ∈ knots, nameOk x = true) : OkItem y := by
  obtain ⟨a, b, lo, wi, rfl, ne, ha, hb, h1, h2, _⟩ := h
  exact okItem (nm_len (kn a ha)) (nm_len (kn b hb)) h1 h2
theorem ItemOf.nms (h : ItemOf names knots y) : ∀ s ∈ namesD y, s ∈ names := by
  obtain ⟨a, b, lo, wi, rfl, ne, ha, hb, h1, h2, h3, h4⟩ := h
  intro s hs
  have e : namesD (.tup [.str a, .str b, mkSum lo, mkSum wi]) = lo.map (·.1) ++ wi.map (·.1) := by
    show sumNames (mkSum lo) ++ sumNames (mkSum wi) = _
    rw [sn_mk, sn_mk]
  rw [e] at hs
  rcases List.mem_append.mp hs with z | z
  · obtain ⟨p, hp, rfl⟩ := List.mem_map.mp z
    exact h3 p hp
  · obtain ⟨p, hp, rfl⟩ := List.mem_map.mp z
    exact h4 p hp
theorem ItemOf.ends (h : ItemOf names knots y) : ∀ s ∈ endsD y, s ∈ knots := by
  obtain ⟨a, b, lo, wi, rfl, ne, ha, hb, _⟩ := h
  intro s hs
  have : s = a ∨ s = b := by simpa [endsD] using hs
  rcases this with rfl | rfl
  · exact ha
  · exact hb
theorem ddp_le {zs ws : List Str} (h : ∀ s ∈ zs, s ∈ ws) : (ddp zs).length ≤ ws.length := nodup_le nodup_ddp fun s hs => h s (mem_ddp.mp hs)
theorem lp_items (kn : ∀ x ∈ knots, nameOk x = true) (kl : knots.length ≤ 6) (nl : names.length ≤ 6) (h : ∀ y ∈ ys, ItemOf names knots y) (hl : ys.length ≤ 7) : LpOk ys := by
  refine ⟨fun x hx => (h x hx).ok kn, by omega, first_none fun j hj => ?_, ?_⟩
  · rw [wrong_at hj, (h _ (List.getElem_mem hj)).pipe kn]
    have e1 : decide ((j : Int) = 12) = false := decide_eq_false (by omega)
    have e2 : (ddp (endsL (ys.take (j + 1)))).length ≤ knots.length := ddp_le fun s hs => by
      obtain ⟨x, hx, hs⟩ := List.mem_flatMap.mp hs
      exact (h x (List.mem_of_mem_take hx)).ends s hs
    have e3 : decide (6 < (ddp (endsL (ys.take (j + 1)))).length) = false := decide_eq_false (by omega)
    rw [e1, e3]
    rfl
  · have := ddp_le (zs := namesL ys) (ws := names) fun s hs => by
      obtain ⟨x, hx, hs⟩ := List.mem_flatMap.mp hs
      exact (h x hx).nms s hs
    omega
end
end K28
namespace K28
open PySem PySem.Spec PyProof.Rows L2 DL
def t0 : WS := sIf (wNotT (wBl (wCall s_law_is [false, false] [] (wCons (wCall s_rounds_at [false, false] [] (wCons (wMake "Loop" s_Loop_init [false] [] (wCons (wLst (wCons (wTup (wCons (wC (.str "k")) (wCons (wC (.str "l")) (wCons (wMake "Sum" s_Sum_init [false] [] (wCons (wDsp [(.inr "u", wC (.int 2))]) (wNil)) (fun _ _ => False)) (wCons (wMake "Sum" s_Sum_init [false] [] (wCons (wDsp [(.inr "u", wC (.int 3))]) (wNil)) (fun _ _ => False)) (wNil)))))) (wCons (wTup (wCons (wC (.str "l")) (wCons (wC (.str "k")) (wCons (wMake "Sum" s_Sum_init [] [.non] wNil (fun _ _ => False)) (wCons (wMake "Sum" s_Sum_init [false] [] (wCons (wDsp [(.inr "u", wC (.int 2))]) (wNil)) (fun _ _ => False)) (wNil)))))) (wNil)))) (wNil)) (fun _ _ => False)) (wCons (wDsp [(.inr "u", wC (.int 1))]) (wNil))) (fun _ _ => False)) (wCons (wTup (wCons (wC (.str "rounds")) (wCons (wTup (wCons (wC (.int 2)) (wCons (wC (.int 2)) (wNil)))) (wNil)))) (wNil))) (fun _ _ => False)))) (sRet (wC (.bl false))) (sNext)
def l0 : WS := sPar 3 4 (wCall s_law_some_knots [true, false] [] (wCons (wVar 1) (wCons (wC (.int 4)) (wNil))) (fun _ _ => False)) (wLst (wNil))
def l1 : WS := sFor (wRng1 (wCons (wCall s_law_draw [true, false] [] (wCons (wVar 1) (wCons (wC (.int 6)) (wNil))) (fun _ _ => False)) (wNil))) (gN 5) (sSeq (sPar 6 7 (wCall s_law_pick [true, false] [] (wCons (wVar 1) (wCons (wVar 3) (wNil))) (fun _ _ => False)) (wCall s_law_draw [true, false] [] (wCons (wVar 1) (wCons (wC (.int 3)) (wNil))) (fun _ _ => False))) (sDrop (wApp (wVar 4) (wCons (wTup (wCons (wVar 6) (wCons (wCall s_law_pick [true, false] [] (wCons (wVar 1) (wCons (wLc (wIt (wVar 3)) (gN 13) (wBl (wNe own0 0 (wVar 13) (wVar 6))) (wVar 13) [13]) (wNil))) (fun _ _ => False)) (wCons (wVar 7) (wCons (wB fSub (wB fAdd (wVar 7) (wCall s_law_draw [true, false] [] (wCons (wVar 1) (wCons (wC (.int 4)) (wNil))) (fun _ _ => False))) (wCall s_law_pick [true, false] [] (wCons (wVar 1) (wCons (wLst (wCons (wC (.int 0)) (wCons (wC (.int 0)) (wCons (wC (.int 0)) (wCons (wC (.int 1)) (wNil)))))) (wNil))) (fun _ _ => False))) (wNil)))))) (wNil)))))
def l2 : WS := sSet 8 (wMake "Loop" s_Loop_init [false] [] (wCons (wLc (wIt (wVar 4)) (gT 4 (gsCons (gN 6) (gsCons (gN 14) (gsCons (gN 7) (gsCons (gN 15) (gsNil)))))) (wYes) (wTup (wCons (wVar 6) (wCons (wVar 14) (wCons (wMake "Sum" s_Sum_init [false] [] (wCons (wDsp [(.inr "u", wVar 7)]) (wNil)) (fun _ _ => False)) (wCons (wMake "Sum" s_Sum_init [false] [] (wCons (wDsp [(.inr "u", wCB fMax2 (wCons (wVar 15) (wCons (wC (.int 0)) (wNil))))]) (wNil)) (fun _ _ => False)) (wNil)))))) [6, 14, 7, 15]) (wNil)) (fun _ _ => False))
def l3 : WS := sSet 4 (wLc (wIt (wVar 4)) (gT 4 (gsCons (gN 6) (gsCons (gN 14) (gsCons (gN 7) (gsCons (gN 15) (gsNil)))))) (wYes) (wTup (wCons (wVar 6) (wCons (wVar 14) (wCons (wVar 7) (wCons (wCB fMax2 (wCons (wVar 15) (wCons (wC (.int 0)) (wNil)))) (wNil)))))) [6, 14, 7, 15])
def l4 : WS := sSet 9 (wLc (wIt (wCall s_law_tried [false] [] (wCons (wVar 4) (wNil)) (fun _ _ => False))) (gN 11) (wBl (wCall s_law_is_even [false, false] [] (wCons (wVar 4) (wCons (wVar 11) (wNil))) (fun _ _ => False))) (wVar 11) [11])
def l5 : WS := sSet 10 (wCall s_rounds_at [false, false] [] (wCons (wVar 8) (wCons (wDsp [(.inr "u", wC (.int 1))]) (wNil))) (fun _ _ => False))
def l6 : WS := sIf (wOrT (wBl (wNe own0 0 (wEq own0 0 (wB fIx (wVar 10) (wC (.int 0))) (wC (.str "rounds"))) (wNe own0 1 (wVar 9) (wLst (wNil))))) (wAndT (wBl (wNe own0 1 (wVar 9) (wLst (wNil)))) (wBl (wB (fInT true) (wB fIx (wVar 10) (wC (.int 1))) (wVar 9))))) (sRet (wC (.bl false))) (sNext)
def l7 : WS := sFor (wIt (wSl (wCall s_law_shuffled [true, false] [] (wCons (wVar 1) (wCons (wCall s_law_tried [false] [] (wCons (wVar 4) (wNil)) (fun _ _ => False)) (wNil))) (fun _ _ => False)) (wNo) (wSome (wC (.int 30))))) (gN 11) (sIf (wNotT (wBl (wCall s_law_is [false, false] [] (wCons (wCall s_are_rounds [false, false, false] [] (wCons (wVar 8) (wCons (wDsp [(.inr "u", wC (.int 1))]) (wCons (wVar 11) (wNil)))) (fun _ _ => False)) (wCons (wB (fInT false) (wVar 11) (wVar 9)) (wNil))) (fun _ _ => False)))) (sRet (wC (.bl false))) (sNext))
def l8 : WS := sSet 12 (wLc (wEnum (wCons (wVar 4) (wNil))) (gT 2 (gsCons (gN 16) (gsCons (gN 17) (gsNil)))) (wBl (wB fGt (wB fIx (wVar 17) (wC (.int 2))) (wB fIx (wVar 17) (wC (.int 3))))) (wVar 16) [16, 17])
def l9 : WS := sIf (wAndT (wBl (wNe own0 1 (wVar 12) (wLst (wNil)))) (wBl (wNe own0 0 (wB fIx (wVar 10) (wC (.int 0))) (wC (.str "broken"))))) (sRet (wC (.bl false))) (sNext)
def lapB : WS := sSeq l0 (sSeq l1 (sSeq l2 (sSeq l3 (sSeq l4 (sSeq l5 (sSeq l6 (sSeq l7 (sSeq l8 (l9)))))))))
theorem b_law_cut : b_law = sSeq t0 (sSeq (sFor (wRng1 (wCons (wC (.int 8)) (wNil))) (gN 2) lapB) (sRet (wC (.bl true)))) := rfl
end K28
namespace K28
open PySem PySem.Spec PyProof.Rows L2 DL
/-! ### sums of one name -/
def uP (n : Int) : List (Str × Int) := posP [("u", n)]
theorem uP_pos {n : Int} (h : 0 < n) : uP n = [(("u" : Str), n)] := by
  simp [uP, posP, h]
theorem uP_zero {n : Int} (h : ¬ 0 < n) : uP n = [] := by
  simp [uP, posP]
  omega
theorem u_ok : nameOk "u" = true := by decide +kernel
theorem uP_parts (n : Int) : PartsOk (uP n) := by
  by_cases h : 0 < n
  · rw [uP_pos h]
    exact ⟨List.nodup_cons.mpr ⟨(fun z => nomatch z), List.nodup_nil⟩, (fun p hp => by rw [List.mem_singleton.mp hp]; exact ⟨u_ok, h⟩), by show 1 < 60; decide⟩
  · rw [uP_zero h]
    exact ⟨by decide, (fun p hp => nomatch hp), by decide⟩
theorem uP_ge {n : Int} (h : 0 ≤ n) : PartsGe [(("u" : Str), n)] := ⟨List.nodup_cons.mpr ⟨(fun z => nomatch z), List.nodup_nil⟩, (fun p hp => by rw [List.mem_singleton.mp hp]; exact ⟨u_ok, h⟩), by show 1 < 60; decide⟩
theorem uP_perm {n : Int} {qs : List (Str × Int)} (h : qs.Perm (uP n)) : qs = uP n := by
  by_cases p : 0 < n
  · rw [uP_pos p] at h ⊢
    exact List.perm_singleton.mp h
  · rw [uP_zero p] at h ⊢
    exact List.perm_nil.mp h
theorem uP_mem {n : Int} : ∀ p ∈ uP n, p.1 ∈ (["u"] : List Str) := fun p hp => by
  by_cases h : 0 < n
  · rw [uP_pos h] at hp
    rw [List.mem_singleton.mp hp]
    exact List.mem_cons_self
  · rw [uP_zero h] at hp
    exact (nomatch hp)
abbrev z1 : List (Str × Int) := [("u", 1)]
theorem uP_worth {n : Int} (h : 0 ≤ n) : worth (uP n) z1 = n := by
  by_cases p : 0 < n
  · rw [uP_pos p]
    show n * (getP z1 "u").getD 0 + 0 = n
    have : (getP z1 "u").getD 0 = 1 := by decide +kernel
    rw [this]
    omega
  · rw [uP_zero p]
    show (0 : Int) = n
    omega
section
variable {we wa wb : WE} {wr : WA} {env env1 env2 : EnvD} {Ed : XD → EnvD → Prop} {n : Int}
theorem dsp_u (h : Ev we env (.sh (.int n)) env) : Ev (wDsp [(.inr "u", we)]) env (.fr (.dct (dK [("u", n)]))) env := fun Q q => h _ q
theorem mk_sumU (h : Ev we env (.sh (.int n)) env) (h0 : 0 ≤ n) : Ev (wMake "Sum" s_Sum_init [false] [] (wCons (wDsp [(.inr "u", we)]) wNil) Ed) env (.fr (mkSum (uP n))) env := fun Q q =>
  (Av.fr (dsp_u h) Av.nil) _ ⟨List.nodup_nil, rfl, .dct (dK [("u", n)]), [("u", n)], rfl, .inr rfl, uP_ge h0, fun qs hq => by
    rw [uP_perm hq]
    exact q⟩
theorem mk_sum0 : Ev (wMake "Sum" s_Sum_init [] [.non] wNil Ed) env (.fr (mkSum (uP 0))) env := fun Q q =>
  ⟨List.nodup_nil, rfl, .non, [], rfl, .inl ⟨rfl, rfl⟩, ⟨List.nodup_nil, (fun p hp => nomatch hp), by decide⟩, fun qs hq => by
    rw [List.perm_nil.mp hq]
    exact q⟩
end
/-! ### drawn pipes -/
def mx (w : Int) : Int := if 0 > w then 0 else w
theorem mx_ge (w : Int) : 0 ≤ mx w := by
  unfold mx
  split <;> omega
def clip (p : Pp) : Pp := (p.1, p.2.1, p.2.2.1, mx p.2.2.2)
def lpOf (p : Pp) : Lp := (p.1, p.2.1, uP p.2.2.1, uP (mx p.2.2.2))
structure RawOk (knots : List Str) (ps : List Pp) : Prop where
  len : ps.length ≤ 5
  it : ∀ p ∈ ps, p.1 ∈ knots ∧ p.2.1 ∈ knots ∧ p.1 ≠ p.2.1 ∧ 0 ≤ p.2.2.1 ∧ p.2.2.1 < 3 ∧ p.2.2.2 ≤ p.2.2.1 + 3
structure KnOk (knots : List Str) : Prop where
  lo : 2 ≤ knots.length
  hi : knots.length ≤ 6
  nd : knots.Nodup
  nm : ∀ x ∈ knots, nameOk x = true
section
variable {knots : List Str} {ps : List Pp}
theorem raw_lp (k : KnOk knots) (h : RawOk knots ps) : LpOk ((ps.map lpOf).map lpD) := by
  refine lp_items (names := ["u"]) k.nm k.hi (by decide) (fun y hy => ?_) (by rw [List.length_map, List.length_map]; have := h.len; omega)
  obtain ⟨l, hl, rfl⟩ := List.mem_map.mp hy
  obtain ⟨p, hp, rfl⟩ := List.mem_map.mp hl
  obtain ⟨h1, h2, h3, _⟩ := h.it p hp
  exact ⟨p.1, p.2.1, uP p.2.2.1, uP (mx p.2.2.2), rfl, h3, h1, h2, uP_parts _, uP_parts _, uP_mem, uP_mem⟩
theorem raw_lps (h : RawOk knots ps) : LpsOk (ps.map lpOf) z1 := by
  have sub : ∀ n, ∀ p ∈ uP n, p.1 ∈ z1.map (·.1) := fun n p hp => uP_mem p hp
  refine ⟨⟨fun p hp => ?_, by decide⟩, fun p hp => ?_, by rw [List.length_map]; have := h.len; omega, fun l hl => ?_⟩
  · rw [List.mem_singleton.mp hp]
    exact ⟨u_ok, by decide⟩
  · rw [List.mem_singleton.mp hp]
    decide
  · obtain ⟨p, hp, rfl⟩ := List.mem_map.mp hl
    have l1 := (uP_parts p.2.2.1).2.2
    have l2 := (uP_parts (mx p.2.2.2)).2.2
    refine ⟨?_, ?_, sub _, sub _⟩
    · show (uP p.2.2.1).length < 1000
      omega
    · show (uP (mx p.2.2.2)).length < 1000
      omega
theorem at_clip (h : RawOk knots ps) : (ps.map lpOf).map (atZ z1) = ps.map clip := by
  rw [List.map_map]
  refine List.map_congr_left fun p hp => ?_
  obtain ⟨_, _, _, h0, _⟩ := h.it p hp
  show (p.1, p.2.1, worth (uP p.2.2.1) z1, worth (uP (mx p.2.2.2)) z1) = clip p
  rw [uP_worth h0, uP_worth (mx_ge _)]
  rfl
theorem raw_good (k : KnOk knots) (h : RawOk knots ps) : GoodPs (ps.map clip) := by
  refine ⟨fun p hp => ?_, by rw [List.length_map]; have := h.len; omega, ?_⟩
  · obtain ⟨r, hr, rfl⟩ := List.mem_map.mp hp
    obtain ⟨h1, h2, h3, _⟩ := h.it r hr
    exact ⟨k.nm _ h1, k.nm _ h2, h3⟩
  · have := ddp_le (zs := endsP (ps.map clip)) (ws := knots) fun s hs => by
      obtain ⟨p, hp, hs⟩ := List.mem_flatMap.mp hs
      obtain ⟨r, hr, rfl⟩ := List.mem_map.mp hp
      obtain ⟨h1, h2, _⟩ := h.it r hr
      have : s = r.1 ∨ s = r.2.1 := by simpa [clip] using hs
      rcases this with rfl | rfl
      · exact h1
      · exact h2
    have := k.hi
    omega
theorem raw_tried (h : RawOk knots ps) : (ps.map clip).length ≤ 5 ∧ ∀ p ∈ ps.map clip, 0 ≤ p.2.2.1 ∧ p.2.2.1 < 1000 ∧ p.2.2.2 ≤ p.2.2.1 + 3 ∧ 0 ≤ p.2.2.2 := by
  refine ⟨by rw [List.length_map]; exact h.len, fun p hp => ?_⟩
  obtain ⟨r, hr, rfl⟩ := List.mem_map.mp hp
  obtain ⟨_, _, _, h0, h3, h4⟩ := h.it r hr
  refine ⟨h0, by show r.2.2.1 < 1000; omega, ?_, mx_ge _⟩
  show mx r.2.2.2 ≤ r.2.2.1 + 3
  unfold mx
  split <;> omega
end
/-! ### all tuples tried -/
theorem mem_upTo {l w a : Int} : a ∈ upTo l w ↔ l ≤ a ∧ a ≤ w := by
  unfold upTo
  rw [List.mem_map]
  constructor
  · rintro ⟨n, hn, rfl⟩
    have := List.mem_range.mp hn
    omega
  · rintro ⟨h1, h2⟩
    exact ⟨(a - l).toNat, List.mem_range.mpr (by omega), by omega⟩
theorem inB_app {l w a : Int} {s t : Str} : ∀ (ps : List Pp) (xs : List Int), xs.length = ps.length → (inB (ps ++ [(s, t, l, w)]) (xs ++ [a]) = (inB ps xs && decide (l ≤ a ∧ a ≤ w)))
  | [], [], _ => by
    show (decide (l ≤ a ∧ a ≤ w) && true) = (true && decide (l ≤ a ∧ a ≤ w))
    rw [Bool.and_comm]
  | [], _ :: _, h => by cases h
  | _ :: _, [], h => by cases h
  | p :: ps, x :: xs, h => by
    show (decide (p.2.2.1 ≤ x ∧ x ≤ p.2.2.2) && inB (ps ++ [(s, t, l, w)]) (xs ++ [a])) = ((decide (p.2.2.1 ≤ x ∧ x ≤ p.2.2.2) && inB ps xs) && decide (l ≤ a ∧ a ≤ w))
    rw [inB_app ps xs (by simpa using h), Bool.and_assoc]
theorem mem_triedGo : ∀ (qs pre : List Pp) (fs : List (List Int)), (∀ f, f ∈ fs ↔ inB pre f = true) → ∀ f, f ∈ triedGo qs fs ↔ inB (pre ++ qs) f = true
  | [], pre, fs, h, f => by
    rw [List.append_nil]
    exact h f
  | (s, t, l, w) :: qs, pre, fs, h, f => by
    have := mem_triedGo qs (pre ++ [(s, t, l, w)]) (fs.flatMap fun one => (upTo l w).map fun a => one ++ [a]) (fun g => ?_) f
    · rw [List.append_assoc] at this
      exact this
    · rw [List.mem_flatMap]
      constructor
      · rintro ⟨one, h1, h2⟩
        obtain ⟨a, ha, rfl⟩ := List.mem_map.mp h2
        have h3 := (h one).mp h1
        rw [inB_app pre one (inB_len h3), h3, decide_eq_true (mem_upTo.mp ha)]
        rfl
      · intro hg
        have hl := inB_len hg
        rw [List.length_append] at hl
        have ne : g ≠ [] := fun z => by rw [z] at hl; simp at hl
        have e := List.dropLast_concat_getLast ne
        have ll : g.dropLast.length = pre.length := by
          rw [List.length_dropLast, hl]
          rfl
        rw [← e, inB_app pre _ ll, Bool.and_eq_true, decide_eq_true_iff] at hg
        refine ⟨g.dropLast, (h _).mpr hg.1, List.mem_map.mpr ⟨g.getLast ne, mem_upTo.mpr hg.2, e⟩⟩
theorem mem_tried (ps : List Pp) (f : List Int) : f ∈ tried ps ↔ inB ps f = true := by
  have := mem_triedGo ps [] [[]] (fun f => ?_) f
  · exact this
  · rw [List.mem_singleton]
    cases f with
    | nil => exact ⟨fun _ => rfl, fun _ => rfl⟩
    | cons a f => exact ⟨(fun z => nomatch z), (fun z => nomatch z)⟩
theorem triedGo_len : ∀ (ps : List Pp) (fs : List (List Int)), (∀ p ∈ ps, p.2.2.2 ≤ p.2.2.1 + 3) → (triedGo ps fs).length ≤ 4 ^ ps.length * fs.length
  | [], fs, _ => by
    show fs.length ≤ 4 ^ 0 * fs.length
    omega
  | p :: ps, fs, h => by
    have h1 := triedGo_len ps (grow p.2.2.1 p.2.2.2 fs) fun q hq => h q (List.mem_cons_of_mem _ hq)
    have h2 := grow_len (h p List.mem_cons_self) fs
    have h3 : 4 ^ ps.length * (grow p.2.2.1 p.2.2.2 fs).length ≤ 4 ^ ps.length * (4 * fs.length) := Nat.mul_le_mul_left _ h2
    have h4 : 4 ^ (p :: ps).length * fs.length = 4 ^ ps.length * (4 * fs.length) := by
      rw [List.length_cons, Nat.pow_succ, Nat.mul_assoc]
    rw [h4]
    exact Nat.le_trans h1 h3
theorem tried_len {ps : List Pp} (h5 : ps.length ≤ 5) (h : ∀ p ∈ ps, p.2.2.2 ≤ p.2.2.1 + 3) : (tried ps).length ≤ 1024 := by
  have h1 := triedGo_len ps [[]] h
  have h2 : 4 ^ ps.length ≤ 4 ^ 5 := Nat.pow_le_pow_right (by decide) h5
  have h3 : (4 : Nat) ^ 5 = 1024 := by decide
  show (triedGo ps [[]]).length ≤ 1024
  simp only [List.length_cons, List.length_nil] at h1
  omega
/-! ### in lists of tuples of numbers -/
theorem pyDs_ints (xs : List Int) : pyDs (iD xs) = xs.map PyData.int := by
  induction xs with
  | nil => rfl
  | cons x xs ih =>
    show PyData.int x :: pyDs (iD xs) = _
    rw [ih]
    rfl
theorem seqDs_ints (xs : List Int) : seqDs (iD xs) = true := by
  induction xs with
  | nil => rfl
  | cons x xs ih => exact ih
theorem eqvAll_ints : ∀ xs ys : List Int, PyData.eqvAll (xs.map PyData.int) (ys.map PyData.int) = decide (xs = ys)
  | [], [] => by simp [PyData.eqvAll]
  | [], _ :: _ => by simp [PyData.eqvAll]
  | _ :: _, [] => by simp [PyData.eqvAll]
  | x :: xs, y :: ys => by
    rw [List.map_cons, List.map_cons, PyData.eqvAll, eqvAll_ints xs ys, PyData.eqv, Bool.eq_iff_iff]
    simp
theorem in_tups (f : List Int) (fs : List (List Int)) : inD (tD f) (fs.map tD) = decide (f ∈ fs) := by
  unfold inD
  induction fs with
  | nil => rfl
  | cons g fs ih =>
    show (PyData.eqv (.tuple (pyDs (iD g))) (.tuple (pyDs (iD f))) || (pyDs (fs.map tD)).any fun y => PyData.eqv y (pyD (tD f))) = _
    rw [ih, PyData.eqv, pyDs_ints, pyDs_ints, eqvAll_ints, Bool.eq_iff_iff, Bool.or_eq_true, decide_eq_true_iff, decide_eq_true_iff, decide_eq_true_iff, List.mem_cons]
    exact ⟨fun h => h.imp_left Eq.symm, fun h => h.imp_left Eq.symm⟩
theorem lay_ints (xs : List Int) : PyData.canLayAll0 (xs.map PyData.int) = true := by
  induction xs with
  | nil => simp [PyData.canLayAll0]
  | cons x xs ih => simp [PyData.canLayAll0, PyData.canLay0, ih]
theorem depth_ints (xs : List Int) : PyData.depthAll (xs.map PyData.int) = 0 := by
  induction xs with
  | nil => rfl
  | cons x xs ih =>
    show max 0 (PyData.depthAll (xs.map PyData.int)) = 0
    rw [ih]
    rfl
theorem okIn_tups (f : List Int) (fs : List (List Int)) : OkIn (tD f) (fs.map tD) := by
  refine ⟨seqDs_ints f, ?_, ?_, ?_, ?_⟩
  · induction fs with
    | nil => rfl
    | cons g fs ih =>
      show (seqDs (iD g) && seqDs (fs.map tD)) = true
      rw [seqDs_ints, ih]
      rfl
  · show PyData.canLay0 (.tuple (pyDs (iD f))) = true
    rw [pyDs_ints, PyData.canLay0]
    exact lay_ints f
  · induction fs with
    | nil => simp [pyDs, PyData.canLayAll0]
    | cons g fs ih =>
      show PyData.canLayAll0 (.tuple (pyDs (iD g)) :: pyDs (fs.map tD)) = true
      rw [PyData.canLayAll0, ih, pyDs_ints, PyData.canLay0, lay_ints]
      rfl
  · show PyData.depthAll (pyDs (iD f)) + 1 ≤ 40
    rw [pyDs_ints, depth_ints]
    decide
theorem is_bool (b : Bool) : IsOk (.bl b) := by
  cases b
  · exact ⟨rfl, showD_of rfl (by decide +kernel) (by decide) (by decide +kernel) (by decide +kernel)⟩
  · exact ⟨rfl, showD_of rfl (by decide +kernel) (by decide) (by decide +kernel) (by decide +kernel)⟩
theorem is_told22 : IsOk (.tup [.str "rounds", .tup (iD [2, 2])]) := by
  have sz : plD 1 (.str "rounds") = true := decide_eq_true (Nat.le_of_lt (small_line (by decide)))
  refine ⟨?_, showD_of rfl ?_ ?_ ?_ ?_⟩
  · show (decide (2 < 1000) && (plD 1 (.str "rounds") && ((decide (2 < 1000) && true) && true))) = true
    rw [sz]
    rfl
  · decide +kernel
  · decide +kernel
  · decide +kernel
  · decide +kernel
end K28
namespace K28
open PySem PySem.Spec PyProof.Rows L2 DL
/-- the law's slots -/
abbrev LE (m : Nat) (c2 a3 a4 a5 a6 a7 a8 a9 a10 a11 a12 : Sl) : EnvD := [.un, .st m, c2, a3, a4, a5, a6, a7, a8, a9, a10, a11, a12, .un, .un, .un, .un, .un]
section
variable {m : Nat} {c2 a3 a4 a5 a6 a7 a8 a9 a10 a11 a12 : Sl} {w : WS} {De : DEnds} {knots ks ns : List Str} {ps : List Pp} {Q : R → EnvD → Prop} {wa wb we : WE} {env : EnvD} {Ed : XD → EnvD → Prop}
theorem FrS.get {s : Sl} {k : Nat} (h : FrS s) (e : env[k]? = some s) : env[k]? = some .un ∨ ∃ d, env[k]? = some (.im d) := by
  rcases h with rfl | ⟨d, rfl⟩
  · exact .inl e
  · exact .inr ⟨d, e⟩
theorem L0 (q : ∀ knots, KnOk knots → w (LE m c2 (.ow (.lst (sDs knots))) (.ow (.lst (psD []))) a5 a6 a7 a8 a9 a10 a11 a12) De) : sSeq l0 w (LE (m + 7) c2 a3 a4 a5 a6 a7 a8 a9 a10 a11 a12) De := by
  unfold l0
  refine par_w ?_
  refine Av.br (k := 1) (.varS rfl) (.sh .cst .nil) _ ⟨by simp [ixs], rfl, m, 4, rfl, by decide, by decide, fun ys h1 h2 h3 h4 => ?_⟩
  exact ⟨(by decide : 3 < 18), (by decide : 4 < 18), q ys ⟨h1, h2, h3, h4⟩⟩
/-! ### the pipes drawn -/
def pipeB : WS := sSeq (sPar 6 7 (wCall s_law_pick [true, false] [] (wCons (wVar 1) (wCons (wVar 3) (wNil))) (fun _ _ => False)) (wCall s_law_draw [true, false] [] (wCons (wVar 1) (wCons (wC (.int 3)) (wNil))) (fun _ _ => False))) (sDrop (wApp (wVar 4) (wCons (wTup (wCons (wVar 6) (wCons (wCall s_law_pick [true, false] [] (wCons (wVar 1) (wCons (wLc (wIt (wVar 3)) (gN 13) (wBl (wNe own0 0 (wVar 13) (wVar 6))) (wVar 13) [13]) (wNil))) (fun _ _ => False)) (wCons (wVar 7) (wCons (wB fSub (wB fAdd (wVar 7) (wCall s_law_draw [true, false] [] (wCons (wVar 1) (wCons (wC (.int 4)) (wNil))) (fun _ _ => False))) (wCall s_law_pick [true, false] [] (wCons (wVar 1) (wCons (wLst (wCons (wC (.int 0)) (wCons (wC (.int 0)) (wCons (wC (.int 0)) (wCons (wC (.int 1)) (wNil)))))) (wNil))) (fun _ _ => False))) (wNil)))))) (wNil))))
def KnS (knots : List Str) (s : Sl) : Prop := s = .ow (.lst (sDs knots)) ∨ s = .im (.lst (sDs knots))
theorem another (k : KnOk knots) (t : Str) : ∃ h ∈ knots, h ≠ t := by
  obtain ⟨lo, _, nd, _⟩ := k
  match knots, lo, nd with
  | a :: b :: l, _, nd =>
    by_cases e : a = t
    · refine ⟨b, List.mem_cons_of_mem _ List.mem_cons_self, fun z => ?_⟩
      have := (List.nodup_cons.mp nd).1
      rw [e, ← z] at this
      exact this List.mem_cons_self
    · exact ⟨a, List.mem_cons_self, e⟩
theorem pipe_one (k : KnOk knots) {acc : List Pp} (hl : acc.length < 5) (h3 : KnS knots a3) (q : ∀ p : Pp, p.1 ∈ knots → p.2.1 ∈ knots → p.1 ≠ p.2.1 → 0 ≤ p.2.2.1 → p.2.2.1 < 3 → p.2.2.2 ≤ p.2.2.1 + 3 → De.nx (LE m c2 (.im (.lst (sDs knots))) (.ow (.lst (psD (acc ++ [p])))) a5 (.im (.str p.1)) (.im (.int p.2.2.1)) a8 a9 a10 a11 a12)) :
    pipeB (LE (m + 5) c2 a3 (.ow (.lst (psD acc))) a5 a6 a7 a8 a9 a10 a11 a12) De := by
  unfold pipeB
  refine par_w ?_
  have kl : (sDs knots).length < 1000000 := by unfold sDs; rw [List.length_map]; have := k.hi; omega
  have kn0 : sDs knots ≠ [] := fun z => by
    have z2 := congrArg List.length z
    unfold sDs at z2
    rw [List.length_map] at z2
    have := k.lo
    simp only [List.length_nil] at z2
    omega
  have pk1 : ∀ Q : R → EnvD → Prop, (∀ x ∈ sDs knots, Q (.sh x) (LE (m + 4) c2 (.im (.lst (sDs knots))) (.ow (.lst (psD acc))) a5 a6 a7 a8 a9 a10 a11 a12)) → wCall s_law_pick [true, false] [] (wCons (wVar 1) (wCons (wVar 3) (wNil))) (fun _ _ => False) (LE (m + 5) c2 a3 (.ow (.lst (psD acc))) a5 a6 a7 a8 a9 a10 a11 a12) Q := fun Q q => by
    rcases h3 with rfl | rfl
    · exact pick1 (n := m + 4) rfl (Ev.varO (k := 3) rfl) (fun P p => p) kn0 kl q
    · exact pick1 (n := m + 4) rfl (Ev.var (k := 3) rfl) (fun P p => p) kn0 kl q
  refine pk1 _ fun x hx => ?_
  obtain ⟨t, ht, rfl⟩ := List.mem_map.mp hx
  refine draw1 (n := m + 3) .cst (by decide) (by decide) fun l hl2 => ?_
  refine ⟨(by decide : 6 < 18), (by decide : 7 < 18), ?_⟩
  refine app_w (i := 4) (xs := psD acc) (env := LE (m + 3) c2 (.im (.lst (sDs knots))) (.ow (.lst (psD acc))) a5 (.im (.str t)) (.im (.int (l : Nat))) a8 a9 a10 a11 a12) rfl ?_
  refine cons_w (tup_w (cons_w ((Ev.var (k := 6) rfl) _ ?_)))
  have e13 : Ev (wLc (wIt (wVar 3)) (gN 13) (wBl (wNe own0 0 (wVar 13) (wVar 6))) (wVar 13) [13]) (LE (m + 3) c2 (.im (.lst (sDs knots))) (.ow (.lst (psD acc))) a5 (.im (.str t)) (.im (.int (l : Nat))) a8 a9 a10 a11 a12) (.fr (.lst ((knots.filter fun x => !decide (x = t)).map D.str))) (LE (m + 3) c2 (.im (.lst (sDs knots))) (.ow (.lst (psD acc))) a5 (.im (.str t)) (.im (.int (l : Nat))) a8 a9 a10 a11 a12) :=
    .lcA1 (h := D.str) (c := fun x => !decide (x = t)) (.itS (d := .lst (sDs knots)) (.var (k := 3) rfl) rfl) (k := 13) rfl (small_line (by have := k.hi; omega)) (fun x hx => .bl (.neS (.var (k := 13) rfl) (.var (k := 6) rfl))) fun x hx _ => .var (k := 13) rfl
  refine cons_w (pick1 (n := m + 2) rfl e13 (fun P p => p) (fun z => ?_) ?_ fun x hx => ?_)
  · obtain ⟨h, hh, hne⟩ := another k t
    have : h ∈ knots.filter fun x => !decide (x = t) := List.mem_filter.mpr ⟨hh, by rw [decide_eq_false hne]; rfl⟩
    rw [List.map_eq_nil_iff.mp z] at this
    exact (nomatch this)
  · rw [List.length_map]
    have := List.length_filter_le (fun x => !decide (x = t)) knots
    have := k.hi
    omega
  obtain ⟨h, hh, rfl⟩ := List.mem_map.mp hx
  obtain ⟨hh1, hh2⟩ := List.mem_filter.mp hh
  have hne : h ≠ t := fun z => by rw [decide_eq_true z] at hh2; exact (nomatch hh2)
  refine cons_w ((Ev.var (k := 7) rfl) _ ?_)
  refine cons_w (B_w (B_w ((Ev.var (k := 7) rfl) _ (draw1 (n := m + 1) .cst (by decide) (by decide) fun e he => ?_))))
  refine pick1 (Ex := fun _ _ => False) (n := m) (xs := [.int 0, .int 0, .int 0, .int 1]) rfl (.lst (.sh .cst (.sh .cst (.sh .cst (.sh .cst .nil)))) fun _ q => q) (fun P p => p) (by simp) (by simp) fun x hx => ?_
  obtain ⟨z, rfl, hz⟩ : ∃ z : Int, x = .int z ∧ 0 ≤ z := by
    have : x = .int 0 ∨ x = .int 1 := by simpa using hx
    rcases this with rfl | rfl
    · exact ⟨0, rfl, by decide⟩
    · exact ⟨1, rfl, by decide⟩
  have q1 := q (t, h, (l : Int), (l : Int) + (e : Int) - z) ht hh1 (fun z => hne z.symm) (Int.natCast_nonneg l) hl2 (by
    show (l : Int) + (e : Int) - z ≤ (l : Int) + 3
    omega)
  have ep : psD (acc ++ [(t, h, (l : Int), (l : Int) + (e : Int) - z)]) = psD acc ++ [pD (t, h, (l : Int), (l : Int) + (e : Int) - z)] := by
    unfold psD
    rw [List.map_append]
    rfl
  rw [ep] at q1
  refine ⟨?_, q1⟩
  unfold psD
  rw [List.length_map]
  exact small_line (by omega)
theorem pipes_go (k : KnOk knots) : ∀ (ds : List D) (m : Nat) (acc : List Pp) (a3 a5 a6 a7 : Sl), RawOk knots acc → acc.length + ds.length ≤ 5 → KnS knots a3 → FrS a6 → FrS a7 → (∀ ps a3 a5 a6 a7, RawOk knots ps → FrS a6 → FrS a7 → De.nx (LE m c2 a3 (.ow (.lst (psD ps))) a5 a6 a7 a8 a9 a10 a11 a12)) →
    forGo (gN 5) pipeB ds (LE (m + 5 * ds.length) c2 a3 (.ow (.lst (psD acc))) a5 a6 a7 a8 a9 a10 a11 a12) De
  | [], m, acc, a3, a5, a6, a7, ok, hl, h3, h6, h7, q => q acc a3 a5 a6 a7 ok h6 h7
  | d :: ds, m, acc, a3, a5, a6, a7, ok, hl, h3, h6, h7, q => by
    rw [List.length_cons] at hl ⊢
    refine ⟨(by decide : 5 < 18), ?_⟩
    refine pipe_one (m := m + 5 * ds.length) k (by omega) h3 fun p p1 p2 p3 p4 p5 p6 => ?_
    refine pipes_go k ds m (acc ++ [p]) _ _ _ _ ⟨by rw [List.length_append]; show acc.length + 1 ≤ 5; omega, fun x hx => ?_⟩ (by rw [List.length_append]; show acc.length + 1 + ds.length ≤ 5; omega) (.inr rfl) .im .im q
    rcases List.mem_append.mp hx with hx | hx
    · exact ok.it x hx
    · rw [List.mem_singleton.mp hx]
      exact ⟨p1, p2, p3, p4, p5, p6⟩
theorem L1 (k : KnOk knots) (h6 : FrS a6) (h7 : FrS a7) (q : ∀ n ps a3 a5 a6 a7, m ≤ n → RawOk knots ps → FrS a6 → FrS a7 → w (LE n c2 a3 (.ow (.lst (psD ps))) a5 a6 a7 a8 a9 a10 a11 a12) De) : sSeq l1 w (LE (m + 26) c2 (.ow (.lst (sDs knots))) (.ow (.lst (psD []))) a5 a6 a7 a8 a9 a10 a11 a12) De := by
  unfold l1
  refine seq_for_w (rng_w (cons_w (draw1 (n := m + 25) .cst (by decide) (by decide) fun i hi => ?_)))
  refine ⟨by omega, by omega, ?_⟩
  obtain ⟨n, hn⟩ : ∃ n, m + 25 = n + 5 * (rangeD 0 (i : Int)).length := ⟨m + 25 - 5 * i, by rw [rangeD_len]; omega⟩
  rw [hn]
  have hl := rangeD_len i
  exact pipes_go k _ n [] _ _ _ _ ⟨by decide, fun p hp => nomatch hp⟩ (by rw [hl]; show 0 + i ≤ 5; omega) (.inl rfl) h6 h7 fun ps a3 a5 a6 a7 ok h6 h7 => q n ps a3 a5 a6 a7 (by rw [hl] at hn; omega) ok h6 h7
/-! ### the net -/
theorem max_ev {i : Int} {k : Nat} (h : env[k]? = some (.im (.int i))) : Ev (wCB fMax2 (wCons (wVar k) (wCons (wC (.int 0)) (wNil)))) env (.sh (.int (mx i))) env :=
  .cb (rs := [.sh (.int i), .sh (.int 0)]) (ds := [.int i, .int 0]) (.sh (.var h) (.sh .cst .nil)) rfl fun Q q => q
theorem ok4 (h6 : FrS a6) (h7 : FrS a7) : okW (LE m c2 a3 a4 a5 a6 a7 a8 a9 a10 a11 a12) [6, 14, 7, 15] := okWs (by decide) fun v hv => by
  have : v = 6 ∨ v = 14 ∨ v = 7 ∨ v = 15 := by simpa using hv
  rcases this with rfl | rfl | rfl | rfl
  · exact h6.get rfl
  · exact .inl rfl
  · exact h7.get rfl
  · exact .inl rfl
theorem L2 (k : KnOk knots) (ok : RawOk knots ps) (h6 : FrS a6) (h7 : FrS a7) (q : ∀ ks ns, Just (endsL ((ps.map lpOf).map lpD)) ks → Just (namesL ((ps.map lpOf).map lpD)) ns → w (LE m c2 a3 (.im (.lst (psD ps))) a5 a6 a7 (.ow (mkLoop ((ps.map lpOf).map lpD) ks ns)) a9 a10 a11 a12) De) : sSeq l2 w (LE m c2 a3 (.ow (.lst (psD ps))) a5 a6 a7 a8 a9 a10 a11 a12) De := by
  unfold l2
  have ev : Ev (wLc (wIt (wVar 4)) (gT 4 (gsCons (gN 6) (gsCons (gN 14) (gsCons (gN 7) (gsCons (gN 15) (gsNil)))))) (wYes) (wTup (wCons (wVar 6) (wCons (wVar 14) (wCons (wMake "Sum" s_Sum_init [false] [] (wCons (wDsp [(.inr "u", wVar 7)]) (wNil)) (fun _ _ => False)) (wCons (wMake "Sum" s_Sum_init [false] [] (wCons (wDsp [(.inr "u", wCB fMax2 (wCons (wVar 15) (wCons (wC (.int 0)) (wNil))))]) (wNil)) (fun _ _ => False)) (wNil)))))) [6, 14, 7, 15]) (LE m c2 a3 (.ow (.lst (psD ps))) a5 a6 a7 a8 a9 a10 a11 a12) (.fr (.lst ((ps.filter fun _ => true).map fun p => lpD (lpOf p)))) (LE m c2 a3 (.im (.lst (psD ps))) a5 a6 a7 a8 a9 a10 a11 a12) := by
    refine .lcA (h := pD) (c := fun _ => true) (.it (.varO (k := 4) rfl) (fun P p => p) rfl) (ok4 h6 h7) (small_line (by have := ok.len; omega)) fun p hp P hP => ?_
    obtain ⟨_, _, _, h0, _⟩ := ok.it p hp
    obtain ⟨a, b, l, wi⟩ := p
    exact ⟨rfl, (by decide : 6 < 18), (by decide : 14 < 18), (by decide : 7 < 18), (by decide : 15 < 18), rfl, hP _ Tv.yes (fun _ => .tup (.sh (.var (k := 6) rfl) (.sh (.var (k := 14) rfl) (.fr (mk_sumU (.var (k := 7) rfl) h0) (.fr (mk_sumU (max_ev (k := 15) rfl) (mx_ge _)) .nil)))) fun _ q => q) rfl⟩
  rw [fil_true] at ev
  have em : (ps.map fun p => lpD (lpOf p)) = (ps.map lpOf).map lpD := by
    rw [List.map_map]
    rfl
  rw [em] at ev
  refine seq_set_w (mk_loopN ev (fun P p => p) (.inl rfl) (raw_lp k ok) fun ks ns hk hn => ?_)
  exact ⟨(by decide : 8 < 18), q ks ns hk hn⟩
theorem L3 (ok : RawOk knots ps) (h6 : FrS a6) (h7 : FrS a7) (q : w (LE m c2 a3 (.ow (.lst (psD (ps.map clip)))) a5 a6 a7 a8 a9 a10 a11 a12) De) : sSeq l3 w (LE m c2 a3 (.im (.lst (psD ps))) a5 a6 a7 a8 a9 a10 a11 a12) De := by
  unfold l3
  have ev : Ev (wLc (wIt (wVar 4)) (gT 4 (gsCons (gN 6) (gsCons (gN 14) (gsCons (gN 7) (gsCons (gN 15) (gsNil)))))) (wYes) (wTup (wCons (wVar 6) (wCons (wVar 14) (wCons (wVar 7) (wCons (wCB fMax2 (wCons (wVar 15) (wCons (wC (.int 0)) (wNil)))) (wNil)))))) [6, 14, 7, 15]) (LE m c2 a3 (.im (.lst (psD ps))) a5 a6 a7 a8 a9 a10 a11 a12) (.fr (.lst ((ps.filter fun _ => true).map fun p => pD (clip p)))) (LE m c2 a3 (.im (.lst (psD ps))) a5 a6 a7 a8 a9 a10 a11 a12) := by
    refine .lcA (h := pD) (c := fun _ => true) (.itS (d := .lst (psD ps)) (.var (k := 4) rfl) rfl) (ok4 h6 h7) (small_line (by have := ok.len; omega)) fun p hp P hP => ?_
    obtain ⟨a, b, l, wi⟩ := p
    exact ⟨rfl, (by decide : 6 < 18), (by decide : 14 < 18), (by decide : 7 < 18), (by decide : 15 < 18), rfl, hP _ Tv.yes (fun _ => .tup (.sh (.var (k := 6) rfl) (.sh (.var (k := 14) rfl) (.sh (.var (k := 7) rfl) (.sh (max_ev (k := 15) rfl) .nil)))) fun _ q => q) rfl⟩
  rw [fil_true] at ev
  have em : (ps.map fun p => pD (clip p)) = psD (ps.map clip) := by
    unfold psD
    rw [List.map_map]
    rfl
  rw [em] at ev
  exact seq_set_fr ev (by decide : 4 < 18) q
end
end K28
namespace K28
open PySem PySem.Spec PyProof.Rows L2 DL
theorem at2 {a b c : D} {l : List D} : atI (a :: b :: c :: l) 2 = some c := by
  rw [show (2 : Int) = ((2 : Nat) : Int) from rfl, atI_at (by simp)]
  rfl
theorem at3 {a b c e : D} {l : List D} : atI (a :: b :: c :: e :: l) 3 = some e := by
  rw [show (3 : Int) = ((3 : Nat) : Int) from rfl, atI_at (by simp)]
  rfl
def someR (ps : List Pp) : List (List Int) := (tried ps).filter fun f => evenB ps f
theorem mem_some {ps : List Pp} {f : List Int} : f ∈ someR ps ↔ validB ps f = true := by
  unfold someR validB
  rw [List.mem_filter, mem_tried, Bool.and_eq_true]
def numP : Nat → List Pp → List (Nat × Pp)
  | _, [] => []
  | i, p :: ps => (i, p) :: numP (i + 1) ps
def hN (q : Nat × Pp) : D := .tup [.int (q.1 : Nat), pD q.2]
theorem num_map : ∀ (i : Nat) (ps : List Pp), DL.numbered i (psD ps) = (numP i ps).map hN
  | _, [] => rfl
  | i, p :: ps => by
    show D.tup [.int (i : Nat), pD p] :: DL.numbered (i + 1) (psD ps) = _
    rw [num_map (i + 1) ps]
    rfl
theorem num_len : ∀ (i : Nat) (ps : List Pp), (numP i ps).length = ps.length
  | _, [] => rfl
  | i, p :: ps => by
    show (numP (i + 1) ps).length + 1 = _
    rw [num_len (i + 1) ps]
    rfl
theorem num_mem : ∀ (i : Nat) (ps : List Pp) (q : Nat × Pp), q ∈ numP i ps → q.2 ∈ ps
  | _, [], q, h => nomatch h
  | i, p :: ps, q, h => by
    rcases List.mem_cons.mp h with rfl | h
    · exact List.mem_cons_self
    · exact List.mem_cons_of_mem _ (num_mem (i + 1) ps q h)
theorem inB_nonneg : ∀ (ps : List Pp) (f : List Int), (∀ p ∈ ps, 0 ≤ p.2.2.1) → inB ps f = true → ∀ x ∈ f, 0 ≤ x
  | [], [], _, _, x, hx => nomatch hx
  | [], _ :: _, _, h, _, _ => nomatch h
  | _ :: _, [], _, h, _, _ => nomatch h
  | p :: ps, y :: f, h0, h, x, hx => by
    have h2 : (decide (p.2.2.1 ≤ y ∧ y ≤ p.2.2.2) && inB ps f) = true := h
    rw [Bool.and_eq_true, decide_eq_true_iff] at h2
    rcases List.mem_cons.mp hx with rfl | hx
    · have := h0 p List.mem_cons_self
      omega
    · exact inB_nonneg ps f (fun q hq => h0 q (List.mem_cons_of_mem _ hq)) h2.2 x hx
/-- what rounds_at told -/
def Found (ps : List Pp) (d : D) : Prop := (∃ f, validB ps f = true ∧ d = .tup [.str "rounds", .tup (iD f)]) ∨ ((∀ f, validB ps f = false) ∧ ∃ e, d = .tup [.str "broken", e])
structure CpOk (ps : List Pp) : Prop where
  len : ps.length ≤ 5
  it : ∀ p ∈ ps, 0 ≤ p.2.2.1 ∧ p.2.2.1 < 1000 ∧ p.2.2.2 ≤ p.2.2.1 + 3 ∧ 0 ≤ p.2.2.2
section
variable {m : Nat} {c2 a3 a4 a5 a6 a7 a8 a9 a10 a11 a12 : Sl} {w : WS} {De : DEnds} {knots ks ns : List Str} {ps : List Pp} {Q : R → EnvD → Prop} {wa wb we : WE} {env : EnvD} {Ed : XD → EnvD → Prop}
theorem ok11 (h : FrS a11) : okW (LE m c2 a3 a4 a5 a6 a7 a8 a9 a10 a11 a12) [11] := okWs (by decide) fun v hv => by
  rw [List.mem_singleton.mp hv]
  exact h.get rfl
theorem L4 (ok : CpOk ps) (h11 : FrS a11) (q : w (LE m c2 a3 (.im (.lst (psD ps))) a5 a6 a7 a8 (.ow (.lst ((someR ps).map tD))) a10 a11 a12) De) : sSeq l4 w (LE m c2 a3 (.ow (.lst (psD ps))) a5 a6 a7 a8 a9 a10 a11 a12) De := by
  unfold l4
  have ev : Ev (wLc (fun e Q => Q ((tried ps).map tD) e) (gN 11) (wBl (wCall s_law_is_even [false, false] [] (wCons (wVar 4) (wCons (wVar 11) (wNil))) (fun _ _ => False))) (wVar 11) [11]) (LE m c2 a3 (.im (.lst (psD ps))) a5 a6 a7 a8 a9 a10 a11 a12) (.fr (.lst (((tried ps).filter fun f => evenB ps f).map tD))) (LE m c2 a3 (.im (.lst (psD ps))) a5 a6 a7 a8 a9 a10 a11 a12) := by
    refine .lcA (h := tD) (c := fun f => evenB ps f) Iv.here (ok11 h11) (line5 (by have := tried_len ok.len fun p hp => (ok.it p hp).2.2.1; omega)) fun f hf P hP => ?_
    have hl := inB_len ((mem_tried ps f).mp hf)
    refine ⟨(by decide : 11 < 18), hP _ (.bl ?_) (fun _ => .var (k := 11) rfl) rfl⟩
    exact .call (as := [.im (.lst (psD ps)), .im (tD f)]) (.sh (.var (k := 4) rfl) (.sh (.var (k := 11) rfl) .nil)) (fun _ q => q) List.nodup_nil rfl fun Q q => ⟨ps, f, rfl, hl, by have := ok.len; omega, q⟩
  have T := ev (fun r env1 => setSl 9 r env1 fun e => w e De) ⟨(by decide : 9 < 18), q⟩
  refine seq_set_w (lc_w (it_w (call_w (cons_w ((Ev.varO (k := 4) rfl) _ ?_)))))
  exact ⟨List.nodup_nil, rfl, ps, rfl, ok.len, ok.it, T, T⟩
theorem L5 (k : KnOk knots) (ok : RawOk knots ps) (hn : Just (namesL ((ps.map lpOf).map lpD)) ns) (q : ∀ d, Found (ps.map clip) d → w (LE m c2 a3 a4 a5 a6 a7 (.im (mkLoop ((ps.map lpOf).map lpD) ks ns)) a9 (.im d) a11 a12) De) : sSeq l5 w (LE m c2 a3 a4 a5 a6 a7 (.ow (mkLoop ((ps.map lpOf).map lpD) ks ns)) a9 a10 a11 a12) De := by
  unfold l5
  have nu : ∀ n ∈ ns, n ∈ (["u"] : List Str) := fun n hn2 => by
    obtain ⟨y, hy, hs⟩ := List.mem_flatMap.mp ((hn.2.2 n).mp hn2)
    obtain ⟨l, hl, rfl⟩ := List.mem_map.mp hy
    obtain ⟨p, hp, rfl⟩ := List.mem_map.mp hl
    obtain ⟨h1, h2, h3, _⟩ := ok.it p hp
    have io : ItemOf ["u"] knots (lpD (lpOf p)) := ⟨p.1, p.2.1, uP p.2.2.1, uP (mx p.2.2.2), rfl, h3, h1, h2, uP_parts _, uP_parts _, uP_mem, uP_mem⟩
    exact io.nms n hs
  have nl : ns.length ≤ 1 := nodup_le hn.2.1 (ys := [("u" : Str)]) nu
  refine seq_set_w (call_w ?_)
  refine (Av.br (.varO (k := 8) rfl) (.fr (dsp_u (n := 1) .cst) .nil) : Av _ _ [.br 8, .sh (.dct (dK [("u", 1)]))] (LE m c2 a3 a4 a5 a6 a7 (.ow (mkLoop ((ps.map lpOf).map lpD) ks ns)) a9 a10 a11 a12)) _ ?_
  refine ⟨List.nodup_nil, rfl, ps.map lpOf, ks, ns, z1, rfl, raw_lps ok, ?_, by omega, nu, fun f hv => ⟨(by decide : 10 < 18), ?_⟩, fun hv d => ⟨(by decide : 10 < 18), ?_⟩⟩
  · rw [at_clip ok]
    exact raw_good k ok
  · rw [at_clip ok] at hv
    exact q _ (.inl ⟨f, hv, rfl⟩)
  · rw [at_clip ok] at hv
    exact q _ (.inr ⟨hv, d, rfl⟩)
theorem in_some {ng : Bool} {f : List Int} (ha : Ev wa env (.sh (tD f)) env) (hb : Ev wb env (.br 9) env) (hs : pk env (.br 9) = some (.lst ((someR ps).map tD))) : Ev (wB (fInT ng) wa wb) env (.sh (.bl (if ng then !validB ps f else validB ps f))) env :=
  .B (da := tD f) (db := .lst ((someR ps).map tD)) ha hb rfl hs fun Q q => ⟨okIn_tups _ _, by
    rw [in_tups]
    have e : decide (f ∈ someR ps) = validB ps f := by
      rw [Bool.eq_iff_iff, decide_eq_true_iff]
      exact mem_some
    rw [e]
    exact q⟩
theorem L6 {d : D} (hf : Found ps d) (q : w (LE m c2 a3 a4 a5 a6 a7 a8 (.ow (.lst ((someR ps).map tD))) (.im d) a11 a12) De) : sSeq l6 w (LE m c2 a3 a4 a5 a6 a7 a8 (.ow (.lst ((someR ps).map tD))) (.im d) a11 a12) De := by
  unfold l6
  have t9 : Ev (wNe own0 1 (wVar 9) (wLst (wNil))) (LE m c2 a3 a4 a5 a6 a7 a8 (.ow (.lst ((someR ps).map tD))) (.im d) a11 a12) (.sh (.bl (!decide ((someR ps).map tD = [])))) (LE m c2 a3 a4 a5 a6 a7 a8 (.ow (.lst ((someR ps).map tD))) (.im d) a11 a12) := .neL0 (xs := (someR ps).map tD) (.varO (k := 9) rfl) rfl
  rcases hf with ⟨f, hv, rfl⟩ | ⟨hv, e, rfl⟩
  · have ne : ¬ (someR ps).map tD = [] := fun z => by
      have := mem_some.mpr hv
      rw [List.map_eq_nil_iff.mp z] at this
      exact (nomatch this)
    rw [decide_eq_false ne] at t9
    have t10 : Ev (wEq own0 0 (wB fIx (wVar 10) (wC (.int 0))) (wC (.str "rounds"))) (LE m c2 a3 a4 a5 a6 a7 a8 (.ow (.lst ((someR ps).map tD))) (.im (.tup [.str "rounds", .tup (iD f)])) a11 a12) (.sh (.bl (decide (("rounds" : Str) = "rounds")))) (LE m c2 a3 a4 a5 a6 a7 a8 (.ow (.lst ((someR ps).map tD))) (.im (.tup [.str "rounds", .tup (iD f)])) a11 a12) := .eqS (.ixT (.var (k := 10) rfl) .cst at0) .cst
    rw [decide_eq_true rfl] at t10
    have ti := in_some (ps := ps) (ng := true) (f := f) (wa := wB fIx (wVar 10) (wC (.int 1))) (wb := wVar 9) (env := LE m c2 a3 a4 a5 a6 a7 a8 (.ow (.lst ((someR ps).map tD))) (.im (.tup [.str "rounds", .tup (iD f)])) a11 a12) (.ixT (.var (k := 10) rfl) .cst at1) (.varO (k := 9) rfl) rfl
    rw [if_pos rfl, hv] at ti
    exact seq_if_F (.orF (.bl (.neB t10 t9)) (.andT (.bl t9) (.bl ti))) q
  · have em : (someR ps).map tD = [] := by
      rw [List.map_eq_nil_iff, List.eq_nil_iff_forall_not_mem]
      intro f hf
      have := mem_some.mp hf
      rw [hv f] at this
      exact (nomatch this)
    rw [decide_eq_true em] at t9
    have t10 : Ev (wEq own0 0 (wB fIx (wVar 10) (wC (.int 0))) (wC (.str "rounds"))) (LE m c2 a3 a4 a5 a6 a7 a8 (.ow (.lst ((someR ps).map tD))) (.im (.tup [.str "broken", e])) a11 a12) (.sh (.bl (decide (("broken" : Str) = "rounds")))) (LE m c2 a3 a4 a5 a6 a7 a8 (.ow (.lst ((someR ps).map tD))) (.im (.tup [.str "broken", e])) a11 a12) := .eqS (.ixT (.var (k := 10) rfl) .cst at0) .cst
    rw [decide_eq_false (by decide)] at t10
    exact seq_if_F (.orF (.bl (.neB t10 t9)) (.andF (.bl t9))) q
/-! ### each tuple asked -/
def askB : WS := sIf (wNotT (wBl (wCall s_law_is [false, false] [] (wCons (wCall s_are_rounds [false, false, false] [] (wCons (wVar 8) (wCons (wDsp [(.inr "u", wC (.int 1))]) (wCons (wVar 11) (wNil)))) (fun _ _ => False)) (wCons (wB (fInT false) (wVar 11) (wVar 9)) (wNil))) (fun _ _ => False)))) (sRet (wC (.bl false))) (sNext)
theorem ask_go (ok : RawOk knots ps) (cp : CpOk (ps.map clip)) (hn : ns.length < 1000) (nu : ∀ n ∈ ns, n ∈ z1.map (·.1)) (q : ∀ a11, FrS a11 → De.nx (LE m c2 a3 a4 a5 a6 a7 (.im (mkLoop ((ps.map lpOf).map lpD) ks ns)) (.ow (.lst ((someR (ps.map clip)).map tD))) a10 a11 a12)) : ∀ (ds : List D) (a11 : Sl), FrS a11 → (∀ d ∈ ds, ∃ f, d = tD f ∧ f ∈ tried (ps.map clip)) →
    forGo (gN 11) askB ds (LE m c2 a3 a4 a5 a6 a7 (.im (mkLoop ((ps.map lpOf).map lpD) ks ns)) (.ow (.lst ((someR (ps.map clip)).map tD))) a10 a11 a12) De
  | [], a11, h, _ => q a11 h
  | d :: ds, a11, h, hd => by
    obtain ⟨f, rfl, hf⟩ := hd d List.mem_cons_self
    refine ⟨(by decide : 11 < 18), ?_⟩
    have hb := (mem_tried _ f).mp hf
    have hl := inB_len hb
    rw [List.length_map] at hl
    have e1 : Ev (wCall s_are_rounds [false, false, false] [] (wCons (wVar 8) (wCons (wDsp [(.inr "u", wC (.int 1))]) (wCons (wVar 11) (wNil)))) (fun _ _ => False)) (LE m c2 a3 a4 a5 a6 a7 (.im (mkLoop ((ps.map lpOf).map lpD) ks ns)) (.ow (.lst ((someR (ps.map clip)).map tD))) a10 (.im (tD f)) a12) (.sh (.bl (validB (ps.map clip) f))) (LE m c2 a3 a4 a5 a6 a7 (.im (mkLoop ((ps.map lpOf).map lpD) ks ns)) (.ow (.lst ((someR (ps.map clip)).map tD))) a10 (.im (tD f)) a12) :=
      .call (as := [.im (mkLoop ((ps.map lpOf).map lpD) ks ns), .im (.dct (dK z1)), .im (tD f)]) (.sh (.var (k := 8) rfl) (.fr (dsp_u .cst) (.sh (.var (k := 11) rfl) .nil))) (fun _ q => q) List.nodup_nil rfl fun Q q => ⟨ps.map lpOf, ks, ns, z1, f, rfl, raw_lps ok, hn, nu, by rw [List.length_map]; exact hl, inB_nonneg _ f (fun p hp => (cp.it p hp).1) hb, by rw [at_clip ok]; exact q⟩
    have e2 := in_some (ps := ps.map clip) (ng := false) (f := f) (wa := wVar 11) (wb := wVar 9) (env := LE m c2 a3 a4 a5 a6 a7 (.im (mkLoop ((ps.map lpOf).map lpD) ks ns)) (.ow (.lst ((someR (ps.map clip)).map tD))) a10 (.im (tD f)) a12) (.var (k := 11) rfl) (.varO (k := 9) rfl) rfl
    rw [if_neg Bool.false_ne_true] at e2
    refine if_F (.not (b := true) (.bl (law_is (is_bool _) (.sh e1 (.sh e2 .nil)) (fun P q => q)))) ?_
    exact ask_go ok cp hn nu q ds _ .im fun d hd2 => hd d (List.mem_cons_of_mem _ hd2)
theorem L7 (ok : RawOk knots ps) (cp : CpOk (ps.map clip)) (hn : ns.length < 1000) (nu : ∀ n ∈ ns, n ∈ z1.map (·.1)) (h11 : FrS a11) (q : ∀ n a11, m ≤ n → FrS a11 → w (LE n c2 a3 (.im (.lst (psD (ps.map clip)))) a5 a6 a7 (.im (mkLoop ((ps.map lpOf).map lpD) ks ns)) (.ow (.lst ((someR (ps.map clip)).map tD))) a10 a11 a12) De) :
    sSeq l7 w (LE (m + 1024) c2 a3 (.im (.lst (psD (ps.map clip)))) a5 a6 a7 (.im (mkLoop ((ps.map lpOf).map lpD) ks ns)) (.ow (.lst ((someR (ps.map clip)).map tD))) a10 a11 a12) De := by
  unfold l7
  have tl := tried_len cp.len fun p hp => (cp.it p hp).2.2.1
  obtain ⟨n, hn2⟩ : ∃ n, m + 1024 = n + ((tried (ps.map clip)).map tD).length := ⟨m + 1024 - (tried (ps.map clip)).length, by rw [List.length_map]; omega⟩
  rw [hn2]
  rw [List.length_map] at hn2
  have T : ∀ ys : List D, ys.Perm ((tried (ps.map clip)).map tD) → forGo (gN 11) askB (DL.cutD ys none (some 30)) (LE n c2 a3 (.im (.lst (psD (ps.map clip)))) a5 a6 a7 (.im (mkLoop ((ps.map lpOf).map lpD) ks ns)) (.ow (.lst ((someR (ps.map clip)).map tD))) a10 a11 a12) { De with nx := fun e => w e De } := fun ys hp => by
    refine ask_go (De := { De with nx := fun e => w e De }) ok cp hn nu (fun a11 h => q n a11 (by omega) h) _ _ h11 fun d hd => ?_
    have e : DL.cutD ys none (some 30) = ys.take 30 := cutD_to (k := 30)
    rw [e] at hd
    obtain ⟨f, hf, rfl⟩ := List.mem_map.mp (hp.mem_iff.mp (List.mem_of_mem_take hd))
    exact ⟨f, rfl, hf⟩
  have S : wCall s_law_shuffled [true, false] [] (fun env Q => Q [.br 1, .sh (.lst ((tried (ps.map clip)).map tD))] env) (fun _ _ => False) (LE (n + ((tried (ps.map clip)).map tD).length) c2 a3 (.im (.lst (psD (ps.map clip)))) a5 a6 a7 (.im (mkLoop ((ps.map lpOf).map lpD) ks ns)) (.ow (.lst ((someR (ps.map clip)).map tD))) a10 a11 a12) (fun r e1 => wNo e1 fun lo e2 => wSome (wC (.int 30)) e2 fun hi e3 => match pk e3 r with
      | some d => fSl d lo hi fun r' => fz r' e3 fun d e2 => match itemsD d with
        | some ds => forGo (gN 11) askB ds e2 { De with nx := fun e => w e De }
        | none => False
      | none => False) :=
    ⟨by simp [ixs], rfl, n, (tried (ps.map clip)).map tD, rfl, by rw [List.length_map]; omega, fun ys hy => T ys hy⟩
  refine seq_for_w (it_w (sl_w (call_w (cons_w ((Ev.varS (k := 1) rfl) _ (cons_w (call_w (cons_w ((Ev.var (k := 4) rfl) _ ?_)))))))))
  exact ⟨List.nodup_nil, rfl, ps.map clip, rfl, cp.len, cp.it, S, S⟩
theorem L8 (cp : CpOk ps) (q : w (LE m c2 a3 (.im (.lst (psD ps))) a5 a6 a7 a8 a9 a10 a11 (.ow (.lst (((numP 0 ps).filter fun q => decide (q.2.2.2.2 < q.2.2.2.1)).map fun q => D.int (q.1 : Nat))))) De) : sSeq l8 w (LE m c2 a3 (.im (.lst (psD ps))) a5 a6 a7 a8 a9 a10 a11 a12) De := by
  unfold l8
  have en : Iv (wEnum (wCons (wVar 4) (wNil))) (LE m c2 a3 (.im (.lst (psD ps))) a5 a6 a7 a8 a9 a10 a11 a12) ((numP 0 ps).map hN) (LE m c2 a3 (.im (.lst (psD ps))) a5 a6 a7 a8 a9 a10 a11 a12) := by
    rw [← num_map]
    exact fun Q q => q
  refine seq_set_fr (.lcA (h := hN) (c := fun q : Nat × Pp => decide (q.2.2.2.2 < q.2.2.2.1)) (f := fun q => D.int (q.1 : Nat)) en (okWs (by decide) fun v hv => ?_) (by rw [num_len]; have := cp.len; exact small_line (by omega)) fun x hx P hP => ?_) (by decide : 12 < 18) q
  · have : v = 16 ∨ v = 17 := by simpa using hv
    rcases this with rfl | rfl <;> exact .inl rfl
  · obtain ⟨i, a, b, l, wi⟩ := x
    refine ⟨rfl, (by decide : 16 < 18), (by decide : 17 < 18), rfl, hP _ (.bl (.gtI (.ixT (.var (k := 17) rfl) .cst at2) (.ixT (.var (k := 17) rfl) .cst at3))) (fun _ => .var (k := 16) rfl) rfl⟩
theorem L9 {d : D} (hf : Found ps d) (q : De.nx (LE m c2 a3 a4 a5 a6 a7 a8 a9 (.im d) a11 (.ow (.lst (((numP 0 ps).filter fun q => decide (q.2.2.2.2 < q.2.2.2.1)).map fun q => D.int (q.1 : Nat)))))) : l9 (LE m c2 a3 a4 a5 a6 a7 a8 a9 (.im d) a11 (.ow (.lst (((numP 0 ps).filter fun q => decide (q.2.2.2.2 < q.2.2.2.1)).map fun q => D.int (q.1 : Nat))))) De := by
  unfold l9
  have t12 : Ev (wNe own0 1 (wVar 12) (wLst (wNil))) (LE m c2 a3 a4 a5 a6 a7 a8 a9 (.im d) a11 (.ow (.lst (((numP 0 ps).filter fun q => decide (q.2.2.2.2 < q.2.2.2.1)).map fun q => D.int (q.1 : Nat))))) (.sh (.bl (!decide (((numP 0 ps).filter fun q => decide (q.2.2.2.2 < q.2.2.2.1)).map (fun q => D.int (q.1 : Nat)) = [])))) (LE m c2 a3 a4 a5 a6 a7 a8 a9 (.im d) a11 (.ow (.lst (((numP 0 ps).filter fun q => decide (q.2.2.2.2 < q.2.2.2.1)).map fun q => D.int (q.1 : Nat))))) := .neL0 (.varO (k := 12) rfl) rfl
  rcases hf with ⟨f, hv, rfl⟩ | ⟨hv, e, rfl⟩
  · have em : ((numP 0 ps).filter fun q => decide (q.2.2.2.2 < q.2.2.2.1)) = [] := by
      rw [List.eq_nil_iff_forall_not_mem]
      intro x hx
      obtain ⟨h1, h2⟩ := List.mem_filter.mp hx
      have := inB_none ⟨x.2, num_mem 0 ps x h1, of_decide_eq_true h2⟩ f
      rw [hv] at this
      exact (nomatch this)
    rw [decide_eq_true (by rw [em]; rfl)] at t12
    exact if_F (.andF (.bl t12)) q
  · have t10 : Ev (wNe own0 0 (wB fIx (wVar 10) (wC (.int 0))) (wC (.str "broken"))) (LE m c2 a3 a4 a5 a6 a7 a8 a9 (.im (.tup [.str "broken", e])) a11 (.ow (.lst (((numP 0 ps).filter fun q => decide (q.2.2.2.2 < q.2.2.2.1)).map fun q => D.int (q.1 : Nat))))) (.sh (.bl (!decide (("broken" : Str) = "broken")))) (LE m c2 a3 a4 a5 a6 a7 a8 a9 (.im (.tup [.str "broken", e])) a11 (.ow (.lst (((numP 0 ps).filter fun q => decide (q.2.2.2.2 < q.2.2.2.1)).map fun q => D.int (q.1 : Nat))))) := .neS (.ixT (.var (k := 10) rfl) .cst at0) .cst
    rw [decide_eq_true rfl] at t10
    have t := Tv.and (Tv.bl t12) (Tv.bl t10)
    rw [show (!true) = false from rfl, Bool.and_false] at t
    exact if_F t q
/-- one lap -/
theorem lap_ok (h6 : FrS a6) (h7 : FrS a7) (h11 : FrS a11) (q : ∀ n a3 a4 a5 a6 a7 a8 a9 a10 a11 a12, m ≤ n → FrS a6 → FrS a7 → FrS a11 → De.nx (LE n c2 a3 a4 a5 a6 a7 a8 a9 a10 a11 a12)) : lapB (LE (m + 1057) c2 a3 a4 a5 a6 a7 a8 a9 a10 a11 a12) De := by
  unfold lapB
  refine L0 (m := m + 1050) fun knots k => ?_
  refine L1 (m := m + 1024) k h6 h7 fun n ps b3 b5 b6 b7 hn ok h6 h7 => ?_
  refine L2 k ok h6 h7 fun ks ns hk hns => ?_
  refine L3 ok h6 h7 ?_
  have cp : CpOk (ps.map clip) := ⟨(raw_tried ok).1, (raw_tried ok).2⟩
  refine L4 cp h11 ?_
  refine L5 k ok hns fun d hf => ?_
  refine L6 hf ?_
  obtain ⟨j, rfl⟩ : ∃ j, n = j + 1024 := ⟨n - 1024, by omega⟩
  have nu : ∀ n ∈ ns, n ∈ (["u"] : List Str) := fun n hn2 => by
    obtain ⟨y, hy, hs⟩ := List.mem_flatMap.mp ((hns.2.2 n).mp hn2)
    obtain ⟨l, hl, rfl⟩ := List.mem_map.mp hy
    obtain ⟨p, hp, rfl⟩ := List.mem_map.mp hl
    obtain ⟨h1, h2, h3, _⟩ := ok.it p hp
    have io : ItemOf ["u"] knots (lpD (lpOf p)) := ⟨p.1, p.2.1, uP p.2.2.1, uP (mx p.2.2.2), rfl, h3, h1, h2, uP_parts _, uP_parts _, uP_mem, uP_mem⟩
    exact io.nms n hs
  have nl : ns.length ≤ 1 := nodup_le hns.2.1 (ys := [("u" : Str)]) nu
  refine L7 (m := j) ok cp (by omega) nu h11 fun n2 b11 hn2 h11 => ?_
  refine L8 cp ?_
  exact L9 hf (q n2 _ _ _ _ _ _ _ _ _ _ (by omega) h6 h7 h11)
theorem laps_ok : ∀ (ds : List D) (m : Nat) (c2 a3 a4 a5 a6 a7 a8 a9 a10 a11 a12 : Sl), 1057 * ds.length ≤ m → FrS a6 → FrS a7 → FrS a11 → (∀ env, De.nx env) → forGo (gN 2) lapB ds (LE m c2 a3 a4 a5 a6 a7 a8 a9 a10 a11 a12) De
  | [], m, c2, a3, a4, a5, a6, a7, a8, a9, a10, a11, a12, _, _, _, _, q => q _
  | d :: ds, m, c2, a3, a4, a5, a6, a7, a8, a9, a10, a11, a12, hm, h6, h7, h11, q => by
    rw [List.length_cons] at hm
    obtain ⟨k, rfl⟩ : ∃ k, m = k + 1057 := ⟨m - 1057, by omega⟩
    exact ⟨(by decide : 2 < 18), lap_ok (m := k) (c2 := .im d) h6 h7 h11 fun n a3 a4 a5 a6 a7 a8 a9 a10 a11 a12 hn h6 h7 h11 => laps_ok ds n _ _ _ _ _ _ _ _ _ _ _ (by omega) h6 h7 h11 q⟩
/-! ### the told net -/
def toldP : List Pp := [("k", "l", 2, 3), ("l", "k", 0, 2)]
theorem told_raw : RawOk ["k", "l"] toldP := by
  refine ⟨by decide, fun p hp => ?_⟩
  rcases List.mem_cons.mp hp with rfl | hp
  · exact ⟨by decide, by decide, by decide, by decide, by decide, by decide⟩
  · rw [List.mem_singleton.mp hp]
    exact ⟨by decide, by decide, by decide, by decide, by decide, by decide⟩
theorem told_kn : KnOk ["k", "l"] := ⟨by decide, by decide, by decide, by decide +kernel⟩
theorem told_clip : toldP.map clip = toldP := by decide +kernel
theorem told_valid : validB toldP [2, 2] = true := by decide +kernel
theorem told_one {f : List Int} (h : validB toldP f = true) : f = [2, 2] := by
  unfold validB at h
  rw [Bool.and_eq_true] at h
  obtain ⟨h1, h2⟩ := h
  have hl := inB_len h1
  match f, hl with
  | [x, y], _ =>
    have b : (decide (2 ≤ x ∧ x ≤ 3) && (decide (0 ≤ y ∧ y ≤ 2) && true)) = true := h1
    rw [Bool.and_eq_true, Bool.and_eq_true, decide_eq_true_iff, decide_eq_true_iff] at b
    have e := even_zero h2 "l"
    have e2 : (if ("l" : Str) = "l" then x else 0) - (if ("k" : Str) = "l" then x else 0) + ((if ("k" : Str) = "l" then y else 0) - (if ("l" : Str) = "l" then y else 0) + 0) = 0 := e
    rw [if_pos rfl, if_neg (by decide), if_neg (by decide), if_pos rfl] at e2
    have h3 : x = 2 := by omega
    have h4 : y = 2 := by omega
    rw [h3, h4]
theorem T0 (q : w env De) : sSeq t0 w env De := by
  unfold t0
  have e1 : Ev (wLst (wCons (wTup (wCons (wC (.str "k")) (wCons (wC (.str "l")) (wCons (wMake "Sum" s_Sum_init [false] [] (wCons (wDsp [(.inr "u", wC (.int 2))]) (wNil)) (fun _ _ => False)) (wCons (wMake "Sum" s_Sum_init [false] [] (wCons (wDsp [(.inr "u", wC (.int 3))]) (wNil)) (fun _ _ => False)) (wNil)))))) (wCons (wTup (wCons (wC (.str "l")) (wCons (wC (.str "k")) (wCons (wMake "Sum" s_Sum_init [] [.non] wNil (fun _ _ => False)) (wCons (wMake "Sum" s_Sum_init [false] [] (wCons (wDsp [(.inr "u", wC (.int 2))]) (wNil)) (fun _ _ => False)) (wNil)))))) (wNil)))) env (.fr (.lst ((toldP.map lpOf).map lpD))) env :=
    .lst (.sh (.tup (.sh .cst (.sh .cst (.fr (mk_sumU .cst (by decide)) (.fr (mk_sumU .cst (by decide)) .nil)))) fun _ q => q) (.sh (.tup (.sh .cst (.sh .cst (.fr mk_sum0 (.fr (mk_sumU .cst (by decide)) .nil)))) fun _ q => q) .nil)) fun _ q => q
  have e2 : Ev (wCall s_rounds_at [false, false] [] (wCons (wMake "Loop" s_Loop_init [false] [] (wCons (wLst (wCons (wTup (wCons (wC (.str "k")) (wCons (wC (.str "l")) (wCons (wMake "Sum" s_Sum_init [false] [] (wCons (wDsp [(.inr "u", wC (.int 2))]) (wNil)) (fun _ _ => False)) (wCons (wMake "Sum" s_Sum_init [false] [] (wCons (wDsp [(.inr "u", wC (.int 3))]) (wNil)) (fun _ _ => False)) (wNil)))))) (wCons (wTup (wCons (wC (.str "l")) (wCons (wC (.str "k")) (wCons (wMake "Sum" s_Sum_init [] [.non] wNil (fun _ _ => False)) (wCons (wMake "Sum" s_Sum_init [false] [] (wCons (wDsp [(.inr "u", wC (.int 2))]) (wNil)) (fun _ _ => False)) (wNil)))))) (wNil)))) (wNil)) (fun _ _ => False)) (wCons (wDsp [(.inr "u", wC (.int 1))]) (wNil))) (fun _ _ => False)) env (.sh (.tup [.str "rounds", .tup (iD [2, 2])])) env := fun Q q => by
    refine call_w (cons_w (mk_loopN (d := .lst ((toldP.map lpOf).map lpD)) (env2 := env) e1 (fun P p => p) (.inl rfl) (raw_lp told_kn told_raw) fun ks ns hk hns => cons_w (dsp_u (n := 1) .cst _ ?_)))
    have nu : ∀ n ∈ ns, n ∈ (["u"] : List Str) := fun n hn2 => by
      obtain ⟨y, hy, hs⟩ := List.mem_flatMap.mp ((hns.2.2 n).mp hn2)
      obtain ⟨l, hl, rfl⟩ := List.mem_map.mp hy
      obtain ⟨p, hp, rfl⟩ := List.mem_map.mp hl
      obtain ⟨h1, h2, h3, _⟩ := told_raw.it p hp
      have io : ItemOf ["u"] ["k", "l"] (lpD (lpOf p)) := ⟨p.1, p.2.1, uP p.2.2.1, uP (mx p.2.2.2), rfl, h3, h1, h2, uP_parts _, uP_parts _, uP_mem, uP_mem⟩
      exact io.nms n hs
    have nl : ns.length ≤ 1 := nodup_le hns.2.1 (ys := [("u" : Str)]) nu
    refine ⟨List.nodup_nil, rfl, toldP.map lpOf, ks, ns, z1, rfl, raw_lps told_raw, ?_, by omega, nu, fun f hv => ?_, fun hv d => ?_⟩
    · rw [at_clip told_raw]
      exact raw_good told_kn told_raw
    · rw [at_clip told_raw, told_clip] at hv
      rw [told_one hv]
      exact q
    · rw [at_clip told_raw, told_clip] at hv
      have := hv [2, 2]
      rw [told_valid] at this
      exact (nomatch this)
  exact seq_if_F (.not (b := true) (.bl (law_is is_told22 (.sh e2 (.sh (.tup (.sh .cst (.sh (.tup (.sh .cst (.sh .cst .nil)) fun _ q => q) .nil)) fun _ q => q) .nil)) (fun P q => q)))) q
end
theorem p_law : b_law ((uns 18).set 1 (.st 1000000000)) ⟨fun _ => False, fun r _ => r = .sh (.bl true), fun _ => False, fun _ => False⟩ := by
  rw [b_law_cut]
  refine (T0 ?_ : sSeq t0 _ (LE 1000000000 .un .un .un .un .un .un .un .un .un .un .un) _)
  refine seq_for (Ev.rng .cst (by decide) (by decide)) ?_
  refine laps_ok _ _ _ _ _ _ _ _ _ _ _ _ _ ?_ (.inl rfl) (.inl rfl) (.inl rfl) fun env => rfl
  rw [show rangeD 0 8 = rangeD 0 ((8 : Nat) : Int) from rfl, rangeD_len]
  omega
end K28
namespace K28
open PySem PySem.Spec PyProof.Rows L2 DL
open C8 (InsC)
variable {P : Program} {w : World} {K : PySem.W.Frag} {mg : Str → Option Value} {base : Heap}
theorem ok_law (X0 : Fx K mg) (O_law_is : OkG P w K mg base 5 "_law_is" ["found", "due"] s_law_is) (O_rounds_at : Ok P w K mg base 5 "rounds_at" ["loop", "sizes"] s_rounds_at) (M_Loop : MkO P w K mg base 3 "Loop" "pipes" s_Loop_init (.tup [])) (M_Sum : MkO P w K mg base 3 "Sum" "parts" s_Sum_init (.non)) (O_law_some_knots : Ok P w K mg base 4 "_law_some_knots" ["state", "most"] s_law_some_knots) (O_law_draw : Ok P w K mg base 2 "_law_draw" ["state", "room"] s_law_draw) (O_law_pick : Ok P w K mg base 3 "_law_pick" ["state", "some"] s_law_pick) (O_law_tried : Ok P w K mg base 1 "_law_tried" ["pipes"] s_law_tried) (O_law_is_even : Ok P w K mg base 2 "_law_is_even" ["pipes", "amounts"] s_law_is_even) (O_law_shuffled : Ok P w K mg base 3 "_law_shuffled" ["state", "some"] s_law_shuffled) (O_are_rounds : Ok P w K mg base 5 "are_rounds" ["loop", "sizes", "thing"] s_are_rounds) {fB : Addr} {fdB fd : FuncData} (FB : FnP K "_law_begun" (top 33) fB fdB) (hB : mg "_law_begun" = some (.ref fB)) (bB : Binds K fdB ["script"] [])
    (F : FnP K "law" (top 44) (He.fAd K ("law", none)) fd) : FnG P w K mg base (L2.CX P w) 6 (He.fAd K ("law", none)) fd ["script"] (spLaw K []) :=
  fnG_code (k := 5) rfl F sc_law (fun vs H Q E h => (by obtain ⟨a, ns, rfl, _⟩ := h; rfl)) fun A out s H vs Q E gd hr q =>
    law_run (i := 1) (ps_set sc_law.nd rfl (by first | exact Or.inl rfl | exact Or.inr rfl) (pe_call (ok_law_begun X0 FB) (hr.mono (by decide)) (by rfl) hB FB.kp bB .nil pass0 (pa_cons (pe_var (i := 0) rfl (by first | exact Or.inl rfl | exact Or.inr (Or.inl rfl))) pa_nil))) (dss_nox
    (dss_cons (ds_if (dt_not (dt_val (de_cG [false, false] O_law_is gd (hr.mono (by decide)) (by rfl) (da_cons (de_c [false, false] O_rounds_at (hr.mono (by decide)) (by rfl) (da_cons (de_mk1 M_Loop (hr.mono (by decide)) (by rfl) (da_cons (de_lst (n := 2) (da_cons (de_tup (n := 4) (da_cons (de_str) (da_cons (de_str) (da_cons (de_mk1 M_Sum (hr.mono (by decide)) (by rfl) (da_cons (de_dsp (dps_str (de_int) (dps_nil))) (da_nil))) (da_cons (de_mk1 M_Sum (hr.mono (by decide)) (by rfl) (da_cons (de_dsp (dps_str (de_int) (dps_nil))) (da_nil))) (da_nil)))))) (da_cons (de_tup (n := 4) (da_cons (de_str) (da_cons (de_str) (da_cons (de_mk0 M_Sum (hr.mono (by decide)) (by rfl)) (da_cons (de_mk1 M_Sum (hr.mono (by decide)) (by rfl) (da_cons (de_dsp (dps_str (de_int) (dps_nil))) (da_nil))) (da_nil)))))) (da_nil)))) (da_nil))) (da_cons (de_dsp (dps_str (de_int) (dps_nil))) (da_nil)))) (da_cons (de_tup (n := 2) (da_cons (de_str) (da_cons (de_tup (n := 2) (da_cons (de_int) (da_cons (de_int) (da_nil)))) (da_nil)))) (da_nil)))))) (dss_one (ds_ret (de_bl))) (dss_nil)) (dss_cons (ds_for (vs := [2]) PassesOwn.never rfl (di_range1 (n := 1) (by rfl) X0.g_range (da_cons (de_int) (da_nil))) (dg_name 2 (by simp) sc_law.nd rfl (by first | exact Or.inl rfl | exact Or.inr rfl)) (dss_cons (ds_parT 3 4 rfl sc_law.nd rfl rfl (by first | exact Or.inl rfl | exact Or.inr rfl) (by first | exact Or.inl rfl | exact Or.inr rfl) (by first | exact Or.inl rfl | exact Or.inr rfl) (by first | exact Or.inl rfl | exact Or.inr rfl) (de_c [true, false] O_law_some_knots (hr.mono (by decide)) (by rfl) (da_cons (de_var 1 rfl) (da_cons (de_int) (da_nil)))) (de_lst (n := 0) (da_nil))) (dss_cons (ds_for (vs := [5]) PassesOwn.never rfl (di_range1 (n := 1) (by rfl) X0.g_range (da_cons (de_c [true, false] O_law_draw (hr.mono (by decide)) (by rfl) (da_cons (de_var 1 rfl) (da_cons (de_int) (da_nil)))) (da_nil))) (dg_name 5 (by simp) sc_law.nd rfl (by first | exact Or.inl rfl | exact Or.inr rfl)) (dss_cons (ds_parT 6 7 rfl sc_law.nd rfl rfl (by first | exact Or.inl rfl | exact Or.inr rfl) (by first | exact Or.inl rfl | exact Or.inr rfl) (by first | exact Or.inl rfl | exact Or.inr rfl) (by first | exact Or.inl rfl | exact Or.inr rfl) (de_c [true, false] O_law_pick (hr.mono (by decide)) (by rfl) (da_cons (de_var 1 rfl) (da_cons (de_var 3 rfl) (da_nil)))) (de_c [true, false] O_law_draw (hr.mono (by decide)) (by rfl) (da_cons (de_var 1 rfl) (da_cons (de_int) (da_nil))))) (dss_one (ds_expr (de_append (n := 1) (de_var 4 rfl) (da_cons (de_tup (n := 4) (da_cons (de_var 6 rfl) (da_cons (de_c [true, false] O_law_pick (hr.mono (by decide)) (by rfl) (da_cons (de_var 1 rfl) (da_cons (de_lc (own := [("knot", 13)]) rfl sc_law.nd (di_it (de_var 3 rfl)) (blkOk_by (own := [("knot", 13)]) (N := ["script", "state", "lap", "knots", "pipes", "turn", "tail", "low", "loop", "some", "found", "one", "low_above", "knot", "head", "width", "nth", "pipe"]) (sc := defScope (top 44)) (by decide +kernel)) (fun _ _ _ _ _ => dg_name 13 (by simp) sc_law.nd rfl (by first | exact Or.inl rfl | exact Or.inr rfl)) (fun _ _ _ _ _ => dpts_one (dt_NotEq (own := own0) (n := 0) pass0 (own0_all (k0 := 0)) (hr.mono (by decide)) (de_var 13 rfl) (de_var 6 rfl))) (fun _ _ _ _ _ => de_var 13 rfl)) (da_nil)))) (da_cons (de_var 7 rfl) (da_cons (de_sub (de_add (de_var 7 rfl) (de_c [true, false] O_law_draw (hr.mono (by decide)) (by rfl) (da_cons (de_var 1 rfl) (da_cons (de_int) (da_nil))))) (de_c [true, false] O_law_pick (hr.mono (by decide)) (by rfl) (da_cons (de_var 1 rfl) (da_cons (de_lst (n := 4) (da_cons (de_int) (da_cons (de_int) (da_cons (de_int) (da_cons (de_int) (da_nil)))))) (da_nil))))) (da_nil)))))) (da_nil))))))) (dss_cons (ds_set 8 sc_law.nd rfl (by first | exact Or.inl rfl | exact Or.inr rfl) (de_mk1 M_Loop (hr.mono (by decide)) (by rfl) (da_cons (de_lc (own := [("tail", 6), ("head", 14), ("low", 7), ("width", 15)]) rfl sc_law.nd (di_it (de_var 4 rfl)) (blkOk_by (own := [("tail", 6), ("head", 14), ("low", 7), ("width", 15)]) (N := ["script", "state", "lap", "knots", "pipes", "turn", "tail", "low", "loop", "some", "found", "one", "low_above", "knot", "head", "width", "nth", "pipe"]) (sc := defScope (top 44)) (by decide +kernel)) (fun _ _ _ _ _ => dg_tup rfl (dgs_cons (dg_name 6 (by simp) sc_law.nd rfl (by first | exact Or.inl rfl | exact Or.inr rfl)) (dgs_cons (dg_name 14 (by simp) sc_law.nd rfl (by first | exact Or.inl rfl | exact Or.inr rfl)) (dgs_cons (dg_name 7 (by simp) sc_law.nd rfl (by first | exact Or.inl rfl | exact Or.inr rfl)) (dgs_cons (dg_name 15 (by simp) sc_law.nd rfl (by first | exact Or.inl rfl | exact Or.inr rfl)) (dgs_nil)))))) (fun _ _ _ _ _ => dpts_nil) (fun _ _ _ _ _ => de_tup (n := 4) (da_cons (de_var 6 rfl) (da_cons (de_var 14 rfl) (da_cons (de_mk1 M_Sum (hr.mono (by decide)) (by rfl) (da_cons (de_dsp (dps_str (de_var 7 rfl) (dps_nil))) (da_nil))) (da_cons (de_mk1 M_Sum (hr.mono (by decide)) (by rfl) (da_cons (de_dsp (dps_str (de_callB (n := 2) (call_max2 rfl) cd_max2 (by rfl) X0.g_max (by decide +kernel) (da_cons (de_var 15 rfl) (da_cons (de_int) (da_nil)))) (dps_nil))) (da_nil))) (da_nil))))))) (da_nil)))) (dss_cons (ds_set 4 sc_law.nd rfl (by first | exact Or.inl rfl | exact Or.inr rfl) (de_lc (own := [("tail", 6), ("head", 14), ("low", 7), ("width", 15)]) rfl sc_law.nd (di_it (de_var 4 rfl)) (blkOk_by (own := [("tail", 6), ("head", 14), ("low", 7), ("width", 15)]) (N := ["script", "state", "lap", "knots", "pipes", "turn", "tail", "low", "loop", "some", "found", "one", "low_above", "knot", "head", "width", "nth", "pipe"]) (sc := defScope (top 44)) (by decide +kernel)) (fun _ _ _ _ _ => dg_tup rfl (dgs_cons (dg_name 6 (by simp) sc_law.nd rfl (by first | exact Or.inl rfl | exact Or.inr rfl)) (dgs_cons (dg_name 14 (by simp) sc_law.nd rfl (by first | exact Or.inl rfl | exact Or.inr rfl)) (dgs_cons (dg_name 7 (by simp) sc_law.nd rfl (by first | exact Or.inl rfl | exact Or.inr rfl)) (dgs_cons (dg_name 15 (by simp) sc_law.nd rfl (by first | exact Or.inl rfl | exact Or.inr rfl)) (dgs_nil)))))) (fun _ _ _ _ _ => dpts_nil) (fun _ _ _ _ _ => de_tup (n := 4) (da_cons (de_var 6 rfl) (da_cons (de_var 14 rfl) (da_cons (de_var 7 rfl) (da_cons (de_callB (n := 2) (call_max2 rfl) cd_max2 (by rfl) X0.g_max (by decide +kernel) (da_cons (de_var 15 rfl) (da_cons (de_int) (da_nil)))) (da_nil)))))))) (dss_cons (ds_setLc (own := [("one", 11)]) 9 rfl sc_law.nd rfl rfl (sw_true rfl rfl rfl (by decide +kernel)) (di_it (de_c [false] O_law_tried (hr.mono (by decide)) (by rfl) (da_cons (de_var 4 rfl) (da_nil)))) (blkOk_by (own := [("one", 11)]) (N := ["script", "state", "lap", "knots", "pipes", "turn", "tail", "low", "loop", "some", "found", "one", "low_above", "knot", "head", "width", "nth", "pipe"]) (sc := defScope (top 44)) (by decide +kernel)) (fun _ _ _ _ _ => dg_name 11 (by simp) sc_law.nd rfl (by first | exact Or.inl rfl | exact Or.inr rfl)) (fun _ _ _ _ _ => dpts_one (dt_val (de_c [false, false] O_law_is_even (hr.mono (by decide)) (by rfl) (da_cons (de_var 4 rfl) (da_cons (de_var 11 rfl) (da_nil)))))) (fun _ _ _ _ _ => de_var 11 rfl)) (dss_cons (ds_set 10 sc_law.nd rfl (by first | exact Or.inl rfl | exact Or.inr rfl) (de_c [false, false] O_rounds_at (hr.mono (by decide)) (by rfl) (da_cons (de_var 8 rfl) (da_cons (de_dsp (dps_str (de_int) (dps_nil))) (da_nil))))) (dss_cons (ds_if (dt_w (dw_or (dt_NotEq (own := own0) (n := 0) pass0 (own0_all (k0 := 0)) (hr.mono (by decide)) (de_Eq (own := own0) (n := 0) pass0 (own0_all (k0 := 0)) (hr.mono (by decide)) (de_ix hr.units (de_var 10 rfl) (de_int)) (de_str)) (de_NotEq (own := own0) (n := 1) pass0 (own0_all (k0 := 0)) (hr.mono (by decide)) (de_var 9 rfl) (de_lst (n := 0) (da_nil)))) (dw_or1 (dt_w (dw_and (dt_NotEq (own := own0) (n := 1) pass0 (own0_all (k0 := 0)) (hr.mono (by decide)) (de_var 9 rfl) (de_lst (n := 0) (da_nil))) (dw_and1 (dt_cm (cm_ninT hr.units) (de_ix hr.units (de_var 10 rfl) (de_int)) (de_var 9 rfl)))))))) (dss_one (ds_ret (de_bl))) (dss_nil)) (dss_cons (ds_for (vs := [11]) PassesOwn.never rfl (di_it (de_slice (de_c [true, false] O_law_shuffled (hr.mono (by decide)) (by rfl) (da_cons (de_var 1 rfl) (da_cons (de_c [false] O_law_tried (hr.mono (by decide)) (by rfl) (da_cons (de_var 4 rfl) (da_nil))) (da_nil)))) (do_none) (do_some (de_int)))) (dg_name 11 (by simp) sc_law.nd rfl (by first | exact Or.inl rfl | exact Or.inr rfl)) (dss_one (ds_if (dt_not (dt_val (de_cG [false, false] O_law_is gd (hr.mono (by decide)) (by rfl) (da_cons (de_c [false, false, false] O_are_rounds (hr.mono (by decide)) (by rfl) (da_cons (de_var 8 rfl) (da_cons (de_dsp (dps_str (de_int) (dps_nil))) (da_cons (de_var 11 rfl) (da_nil))))) (da_cons (de_cm (cm_inT hr.units) (de_var 11 rfl) (de_var 9 rfl)) (da_nil)))))) (dss_one (ds_ret (de_bl))) (dss_nil)))) (dss_cons (ds_setLc (own := [("nth", 16), ("pipe", 17)]) 12 rfl sc_law.nd rfl rfl (sw_true rfl rfl rfl (by decide +kernel)) (di_enum (n := 1) rfl (by rfl) X0.g_enumerate (da_cons (de_var 4 rfl) (da_nil))) (blkOk_by (own := [("nth", 16), ("pipe", 17)]) (N := ["script", "state", "lap", "knots", "pipes", "turn", "tail", "low", "loop", "some", "found", "one", "low_above", "knot", "head", "width", "nth", "pipe"]) (sc := defScope (top 44)) (by decide +kernel)) (fun _ _ _ _ _ => dg_tup rfl (dgs_cons (dg_name 16 (by simp) sc_law.nd rfl (by first | exact Or.inl rfl | exact Or.inr rfl)) (dgs_cons (dg_name 17 (by simp) sc_law.nd rfl (by first | exact Or.inl rfl | exact Or.inr rfl)) (dgs_nil)))) (fun _ _ _ _ _ => dpts_one (dt_cm cm_gt (de_ix hr.units (de_var 17 rfl) (de_int)) (de_ix hr.units (de_var 17 rfl) (de_int)))) (fun _ _ _ _ _ => de_var 16 rfl)) (dss_one (ds_if (dt_w (dw_and (dt_NotEq (own := own0) (n := 1) pass0 (own0_all (k0 := 0)) (hr.mono (by decide)) (de_var 12 rfl) (de_lst (n := 0) (da_nil))) (dw_and1 (dt_NotEq (own := own0) (n := 0) pass0 (own0_all (k0 := 0)) (hr.mono (by decide)) (de_ix hr.units (de_var 10 rfl) (de_int)) (de_str))))) (dss_one (ds_ret (de_bl))) (dss_nil))))))))))))) (dss_one (ds_ret (de_bl)))))) (show 2 ≤ 18 by decide) (show 1 < 18 by decide) (by obtain ⟨a, ns, rfl, _⟩ := q; rfl) q p_law

end K28
namespace K28
open PySem PySem.Spec PyProof.Rows L2 DL

def d_is_number : He.DefD := ⟨("is_number", none), "is_number", "is_number", defArgs (top 9), defBody (top 9), defScope (top 9), [], []⟩
def d_is_from : He.DefD := ⟨("is_from", none), "is_from", "is_from", defArgs (top 10), defBody (top 10), defScope (top 10), [], []⟩
def d_is_name : He.DefD := ⟨("is_name", none), "is_name", "is_name", defArgs (top 11), defBody (top 11), defScope (top 11), [], []⟩
def d_are_some_sizes : He.DefD := ⟨("are_some_sizes", none), "are_some_sizes", "are_some_sizes", defArgs (top 12), defBody (top 12), defScope (top 12), [], []⟩
def d_need_sizes : He.DefD := ⟨("need_sizes", none), "need_sizes", "need_sizes", defArgs (top 13), defBody (top 13), defScope (top 13), [], []⟩
def d_worth_at : He.DefD := ⟨("worth_at", none), "worth_at", "worth_at", defArgs (top 14), defBody (top 14), defScope (top 14), [], []⟩
def d_is_list : He.DefD := ⟨("is_list", none), "is_list", "is_list", defArgs (top 17), defBody (top 17), defScope (top 17), [], []⟩
def d_is_loop_pipe : He.DefD := ⟨("is_loop_pipe", none), "is_loop_pipe", "is_loop_pipe", defArgs (top 21), defBody (top 21), defScope (top 21), [], []⟩
def d_ends_of : He.DefD := ⟨("ends_of", none), "ends_of", "ends_of", defArgs (top 22), defBody (top 22), defScope (top 22), [], []⟩
def d_numbers_at : He.DefD := ⟨("numbers_at", none), "numbers_at", "numbers_at", defArgs (top 24), defBody (top 24), defScope (top 24), [], []⟩
def d_are_rounds_by : He.DefD := ⟨("are_rounds_by", none), "are_rounds_by", "are_rounds_by", defArgs (top 25), defBody (top 25), defScope (top 25), [], []⟩
def d_gathered : He.DefD := ⟨("gathered", none), "gathered", "gathered", defArgs (top 26), defBody (top 26), defScope (top 26), [], []⟩
def d_roads_from : He.DefD := ⟨("roads_from", none), "roads_from", "roads_from", defArgs (top 27), defBody (top 27), defScope (top 27), [], []⟩
def d_begun_at : He.DefD := ⟨("begun_at", none), "begun_at", "begun_at", defArgs (top 28), defBody (top 28), defScope (top 28), [], []⟩
def d_circulated : He.DefD := ⟨("circulated", none), "circulated", "circulated", defArgs (top 29), defBody (top 29), defScope (top 29), [], []⟩
def d_are_rounds : He.DefD := ⟨("are_rounds", none), "are_rounds", "are_rounds", defArgs (top 30), defBody (top 30), defScope (top 30), [], []⟩
def d_rounds_at : He.DefD := ⟨("rounds_at", none), "rounds_at", "rounds_at", defArgs (top 31), defBody (top 31), defScope (top 31), [], []⟩
def d_law_begun : He.DefD := ⟨("_law_begun", none), "_law_begun", "_law_begun", defArgs (top 33), defBody (top 33), defScope (top 33), [], []⟩
def d_law_mixed : He.DefD := ⟨("_law_mixed", none), "_law_mixed", "_law_mixed", defArgs (top 34), defBody (top 34), defScope (top 34), [], []⟩
def d_law_draw : He.DefD := ⟨("_law_draw", none), "_law_draw", "_law_draw", defArgs (top 35), defBody (top 35), defScope (top 35), [], []⟩
def d_law_pick : He.DefD := ⟨("_law_pick", none), "_law_pick", "_law_pick", defArgs (top 36), defBody (top 36), defScope (top 36), [], []⟩
def d_law_shuffled : He.DefD := ⟨("_law_shuffled", none), "_law_shuffled", "_law_shuffled", defArgs (top 37), defBody (top 37), defScope (top 37), [], []⟩
def d_law_plain : He.DefD := ⟨("_law_plain", none), "_law_plain", "_law_plain", defArgs (top 38), defBody (top 38), defScope (top 38), [], []⟩
def d_law_is : He.DefD := ⟨("_law_is", none), "_law_is", "_law_is", defArgs (top 39), defBody (top 39), defScope (top 39), [], []⟩
def d_law_some_knots : He.DefD := ⟨("_law_some_knots", none), "_law_some_knots", "_law_some_knots", defArgs (top 40), defBody (top 40), defScope (top 40), [], []⟩
def d_law_knots : He.DefD := ⟨("_law_knots", none), "_law_knots", "_law_knots", defArgs (top 41), defBody (top 41), defScope (top 41), [], []⟩
def d_law_tried : He.DefD := ⟨("_law_tried", none), "_law_tried", "_law_tried", defArgs (top 42), defBody (top 42), defScope (top 42), [], []⟩
def d_law_is_even : He.DefD := ⟨("_law_is_even", none), "_law_is_even", "_law_is_even", defArgs (top 43), defBody (top 43), defScope (top 43), [], []⟩
def d_law : He.DefD := ⟨("law", none), "law", "law", defArgs (top 44), defBody (top 44), defScope (top 44), [], []⟩
def d_BadLoop_init : He.DefD := ⟨("BadLoop", some "__init__"), "__init__", "BadLoop.__init__", defArgs (mth 5 0), defBody (mth 5 0), defScope (mth 5 0), [], []⟩
def d_Sum_init : He.DefD := ⟨("Sum", some "__init__"), "__init__", "Sum.__init__", defArgs (mth 15 0), defBody (mth 15 0), defScope (mth 15 0), [.non], []⟩
def d_Loop_init : He.DefD := ⟨("Loop", some "__init__"), "__init__", "Loop.__init__", defArgs (mth 23 0), defBody (mth 23 0), defScope (mth 23 0), [.adr (He.dflAt ("Loop", some "__init__") 0)], []⟩
def fnL : List He.DefD := [d_is_number, d_is_from, d_is_name, d_are_some_sizes, d_need_sizes, d_worth_at, d_is_list, d_is_loop_pipe, d_ends_of, d_numbers_at, d_are_rounds_by, d_gathered, d_roads_from, d_begun_at, d_circulated, d_are_rounds, d_rounds_at, d_law_begun, d_law_mixed, d_law_draw, d_law_pick, d_law_shuffled, d_law_plain, d_law_is, d_law_some_knots, d_law_knots, d_law_tried, d_law_is_even, d_law, d_BadLoop_init, d_Sum_init, d_Loop_init]
def gsL : List GetD := []
def faL : List He.Fa := [.glo "RaceError", .glo "BadSum", .glo "BadSizes", .glo "BadLoop", .glo "is_number", .glo "is_from", .glo "is_name", .glo "are_some_sizes", .glo "need_sizes", .glo "worth_at", .glo "Sum", .glo "is_list", .glo "is_loop_pipe", .glo "ends_of", .glo "Loop", .glo "numbers_at", .glo "are_rounds_by", .glo "gathered", .glo "roads_from", .glo "begun_at", .glo "circulated", .glo "are_rounds", .glo "rounds_at", .glo "_law_begun", .glo "_law_mixed", .glo "_law_draw", .glo "_law_pick", .glo "_law_shuffled", .glo "_law_plain", .glo "_law_is", .glo "_law_some_knots", .glo "_law_knots", .glo "_law_tried", .glo "_law_is_even", .glo "law", .free "isinstance", .free "int", .free "bool", .free "str", .free "dict", .free "list", .free "tuple", .free "len", .free "all", .free "any", .free "sorted", .free "range", .free "enumerate", .free "abs", .free "repr", .free "sum", .free "min", .free "max", .free "zip", .str "LETTERS" "abcdefghijklmnopqrstuvwxyz", .int "MOST_LETTERS" 8, .int "MOST_LOOP_PIPES" 12, .int "MOST_LOOP_KNOTS" 6, .cls "Sum", .cls "Loop", .noat "Sum" "own_parts", .noat "Loop" "loop_pipes", .noat "Loop" "loop_knots", .noat "Loop" "loop_names", .mkr "Sum", .mkr "Loop", .meth "BadLoop" "__init__", .noat "BadLoop" "part"]
def exL (K : PySem.W.Frag) : List Bool := [isfB K [.type "int"] (fun k => k == "int" || k == "bool") [("Sum", false), ("Loop", false)],
  isfB K [.type "bool"] (fun k => k == "bool") [("Sum", false), ("Loop", false)],
  isfB K [.type "str"] (fun k => k == "str") [("Sum", false), ("Loop", false)],
  isfB K [.type "dict"] (fun k => k == "dict") [("Sum", false), ("Loop", false)],
  isfB K [.type "tuple"] (fun k => k == "tuple") [("Sum", false), ("Loop", false)],
  isfB K [.type "list", .type "tuple"] (fun k => k == "list" || k == "tuple") [("Sum", false), ("Loop", false)],
  isfB K [.type "int", .type "str"] (fun k => k == "int" || k == "bool" || k == "str") [("Sum", false), ("Loop", false)],
  isfB K [.ref (He.ga K "Sum")] (fun _ => false) [("Sum", true), ("Loop", false)],
  oexB K "BadLoop",
  baseB K "RaceError",
  tup0B K (He.dflAt ("Loop", some "__init__") 0 K),
  decide (PySem.W.typeIn K (.ref (He.ma K (He.ga K "BadLoop") "__init__")) = some (.type "function"))]
def tfL : List He.Defn := []
abbrev Rw : PySem.W.OpenRow := PySem.W.OpenLaw.row PySem.Challenge.rw_anywidths_k28_whole_rounds_of_small_nets
abbrev hk : PySem.W.Hook := hookP 6 faL fnL tfL gsL fun K => (exL K).all id
def ob (s : PySem.W.SharedT) : AlP := obsP 6 faL fnL tfL gsL (fun K => (exL K).all id) (HandSHeadRun.getT s)
theorem ob_eq (s : PySem.W.SharedT) : ob s = hk.obs s.abs := obsP_eq (HandSHeadRun.getT_eq s)
def loose0 : List PySem.Str := ["_wall", "__name__", "RaceError", "BadSum", "BadSizes", "BadLoop", "LETTERS", "MOST_LETTERS", "is_number", "is_from", "is_name", "are_some_sizes", "need_sizes", "worth_at", "Sum", "is_list", "MOST_LOOP_PIPES", "MOST_LOOP_KNOTS", "is_loop_pipe", "ends_of", "Loop", "numbers_at", "are_rounds_by", "gathered", "roads_from", "begun_at", "circulated", "are_rounds", "rounds_at", "_law_begun"]
def loose1 : List PySem.Str := ["_law_mixed", "_law_draw", "_law_pick", "_law_shuffled", "_law_plain", "_law_is", "_law_some_knots", "_law_knots", "_law_tried", "_law_is_even"]
def loose : List PySem.Str := loose0 ++ loose1
theorem run (w : World) : HandSHeadRun.RunEq Rw (PySem.W.view Rw.prog [44]) hk ob 4000 loose w := by
  intro os
  kernel_rfl
end K28
namespace K28
open PySem PySem.Spec PyProof.Rows L2 DL
section
variable {P : Program} {w : World} {h base : Heap} {K : PySem.W.Frag} {mg : Str → Option Value}
abbrev Says (w : World) (h : Heap) (K : PySem.W.Frag) : Prop := SaysP faL fnL tfL gsL (fun K => (exL K).all id) w h K
theorem ex_at (c : Says w h K) (i : Nat) {b : Bool} (hb : (exL K)[i]? = some b) : b = true := List.all_eq_true.mp c.own b (List.mem_of_getElem? hb)
theorem fx (X : K.In h) (G : h.Ns mainGlobals mg) (c : Says w h K) : Fx K mg where
  i_int := isfB_ok (ex_at c 0 rfl)
  i_bool := isfB_ok (ex_at c 1 rfl)
  i_str := isfB_ok (ex_at c 2 rfl)
  i_dict := isfB_ok (ex_at c 3 rfl)
  i_tuple := isfB_ok (ex_at c 4 rfl)
  i_list_tuple := isfB_ok (ex_at c 5 rfl)
  i_int_str := isfB_ok (ex_at c 6 rfl)
  i_Sum := isfB_ok (ex_at c 7 rfl)
  o_Sum := He.glo_ok X G (c.fact (f := .glo "Sum") (List.mem_of_getElem? (i := 10) rfl))
  o_Loop := He.glo_ok X G (c.fact (f := .glo "Loop") (List.mem_of_getElem? (i := 14) rfl))
  o_BadLoop := He.glo_ok X G (c.fact (f := .glo "BadLoop") (List.mem_of_getElem? (i := 3) rfl))
  o_RaceError := He.glo_ok X G (c.fact (f := .glo "RaceError") (List.mem_of_getElem? (i := 0) rfl))
  c_LETTERS := He.str_ok X G (c.fact (f := .str "LETTERS" "abcdefghijklmnopqrstuvwxyz") (List.mem_of_getElem? (i := 54) rfl))
  c_MOST_LETTERS := He.int_ok X G (c.fact (f := .int "MOST_LETTERS" 8) (List.mem_of_getElem? (i := 55) rfl))
  c_MOST_LOOP_PIPES := He.int_ok X G (c.fact (f := .int "MOST_LOOP_PIPES" 12) (List.mem_of_getElem? (i := 56) rfl))
  c_MOST_LOOP_KNOTS := He.int_ok X G (c.fact (f := .int "MOST_LOOP_KNOTS" 6) (List.mem_of_getElem? (i := 57) rfl))
  f_own_parts := fun k hk => by
    rw [List.mem_singleton.mp hk]
    exact ⟨He.cls_ok (c.fact (f := .cls "Sum") (List.mem_of_getElem? (i := 58) rfl)), He.noat_ok (c.fact (f := .noat "Sum" "own_parts") (List.mem_of_getElem? (i := 60) rfl))⟩
  f_loop_pipes := fun k hk => by
    rw [List.mem_singleton.mp hk]
    exact ⟨He.cls_ok (c.fact (f := .cls "Loop") (List.mem_of_getElem? (i := 59) rfl)), He.noat_ok (c.fact (f := .noat "Loop" "loop_pipes") (List.mem_of_getElem? (i := 61) rfl))⟩
  f_loop_knots := fun k hk => by
    rw [List.mem_singleton.mp hk]
    exact ⟨He.cls_ok (c.fact (f := .cls "Loop") (List.mem_of_getElem? (i := 59) rfl)), He.noat_ok (c.fact (f := .noat "Loop" "loop_knots") (List.mem_of_getElem? (i := 62) rfl))⟩
  f_loop_names := fun k hk => by
    rw [List.mem_singleton.mp hk]
    exact ⟨He.cls_ok (c.fact (f := .cls "Loop") (List.mem_of_getElem? (i := 59) rfl)), He.noat_ok (c.fact (f := .noat "Loop" "loop_names") (List.mem_of_getElem? (i := 63) rfl))⟩
  g_isinstance := He.free_ok X G (c.fact (f := .free "isinstance") (List.mem_of_getElem? (i := 35) rfl))
  g_int := He.free_ok X G (c.fact (f := .free "int") (List.mem_of_getElem? (i := 36) rfl))
  g_bool := He.free_ok X G (c.fact (f := .free "bool") (List.mem_of_getElem? (i := 37) rfl))
  g_str := He.free_ok X G (c.fact (f := .free "str") (List.mem_of_getElem? (i := 38) rfl))
  g_dict := He.free_ok X G (c.fact (f := .free "dict") (List.mem_of_getElem? (i := 39) rfl))
  g_list := He.free_ok X G (c.fact (f := .free "list") (List.mem_of_getElem? (i := 40) rfl))
  g_tuple := He.free_ok X G (c.fact (f := .free "tuple") (List.mem_of_getElem? (i := 41) rfl))
  g_len := He.free_ok X G (c.fact (f := .free "len") (List.mem_of_getElem? (i := 42) rfl))
  g_all := He.free_ok X G (c.fact (f := .free "all") (List.mem_of_getElem? (i := 43) rfl))
  g_any := He.free_ok X G (c.fact (f := .free "any") (List.mem_of_getElem? (i := 44) rfl))
  g_sorted := He.free_ok X G (c.fact (f := .free "sorted") (List.mem_of_getElem? (i := 45) rfl))
  g_range := He.free_ok X G (c.fact (f := .free "range") (List.mem_of_getElem? (i := 46) rfl))
  g_enumerate := He.free_ok X G (c.fact (f := .free "enumerate") (List.mem_of_getElem? (i := 47) rfl))
  g_abs := He.free_ok X G (c.fact (f := .free "abs") (List.mem_of_getElem? (i := 48) rfl))
  g_repr := He.free_ok X G (c.fact (f := .free "repr") (List.mem_of_getElem? (i := 49) rfl))
  g_sum := He.free_ok X G (c.fact (f := .free "sum") (List.mem_of_getElem? (i := 50) rfl))
  g_min := He.free_ok X G (c.fact (f := .free "min") (List.mem_of_getElem? (i := 51) rfl))
  g_max := He.free_ok X G (c.fact (f := .free "max") (List.mem_of_getElem? (i := 52) rfl))
  g_zip := He.free_ok X G (c.fact (f := .free "zip") (List.mem_of_getElem? (i := 53) rfl))
theorem sc_BadLoop_init : FnScope ["self", "part"] ["self", "part"] (defScope (mth 5 0)) := ⟨rfl, rfl, rfl, by decide +kernel, rfl, by decide +kernel, by decide +kernel⟩
theorem x_BadLoop (X : K.In h) (G : h.Ns mainGlobals mg) (c : Says w h K) : ExOk P w K mg base 1 "BadLoop" "part" := by
  obtain ⟨fd, F⟩ := c.def_ (d := d_BadLoop_init) (List.mem_of_getElem? (i := 29) rfl)
  have X0 := fx X G c
  refine ⟨oexB_ok (ex_at c 8 rfl), (He.glo_ok X G (c.fact (f := .glo "BadLoop") (List.mem_of_getElem? (i := 3) rfl))), _, fd, ["self", "part"], (He.meth_ok (c.fact (f := .meth "BadLoop" "__init__") (List.mem_of_getElem? (i := 66) rfl))).at_, of_decide_eq_true (ex_at c 11 rfl), fn_excinit (tx := "a loop net is none") F sc_BadLoop_init (oexB_ok (ex_at c 8 rfl)) (He.noat_ok (c.fact (f := .noat "BadLoop" "part") (List.mem_of_getElem? (i := 67) rfl))) fun cdv A outer s H E => ?_, F.bindsN fun _ _ _ _ _ _ us hl => match us, hl with | [_, _], _ => rfl⟩
  exact PSs.nox (pss_cons (ps_expr (pe_baseinit (baseB_ok (ex_at c 9 rfl)) (by rfl) X0.o_RaceError (pa_cons (pe_var (i := 0) rfl (by first | exact Or.inl rfl | exact Or.inr (Or.inl rfl))) (pa_cons pe_str pa_nil)))) (pss_one (ps_ost (pe_var (i := 0) rfl (by first | exact Or.inl rfl | exact Or.inr (Or.inl rfl))) (pe_var (i := 1) rfl (by first | exact Or.inl rfl | exact Or.inr (Or.inl rfl))))))
theorem law_fn (X : K.In h) (G : h.Ns mainGlobals mg) (c : Says w h K) {fd : FuncData} (F : FnP K "law" (top 44) (He.fAd K ("law", none)) fd) :
    FnG P w K mg base (L2.CX P w) 6 (He.fAd K ("law", none)) fd ["script"] (spLaw K []) := by
  have X0 := fx X G c
  have X_BadLoop : ExOk P w K mg base 1 "BadLoop" "part" := x_BadLoop X G c
  have O_is_number : Ok P w K mg base 1 "is_number" ["thing"] s_is_number := by
    obtain ⟨fd, F⟩ := c.def_ (d := d_is_number) (List.mem_of_getElem? (i := 0) rfl)
    exact ok_is_number X0 F (He.glo_ok X G (c.fact (f := .glo "is_number") (List.mem_of_getElem? (i := 4) rfl)))
  have O_is_from : Ok P w K mg base 2 "is_from" ["thing", "least"] s_is_from := by
    obtain ⟨fd, F⟩ := c.def_ (d := d_is_from) (List.mem_of_getElem? (i := 1) rfl)
    exact ok_is_from X0 O_is_number F (He.glo_ok X G (c.fact (f := .glo "is_from") (List.mem_of_getElem? (i := 5) rfl)))
  have O_is_name : Ok P w K mg base 1 "is_name" ["thing"] s_is_name := by
    obtain ⟨fd, F⟩ := c.def_ (d := d_is_name) (List.mem_of_getElem? (i := 2) rfl)
    exact ok_is_name X0 F (He.glo_ok X G (c.fact (f := .glo "is_name") (List.mem_of_getElem? (i := 6) rfl)))
  have O_is_list : Ok P w K mg base 1 "is_list" ["thing"] s_is_list := by
    obtain ⟨fd, F⟩ := c.def_ (d := d_is_list) (List.mem_of_getElem? (i := 6) rfl)
    exact ok_is_list X0 F (He.glo_ok X G (c.fact (f := .glo "is_list") (List.mem_of_getElem? (i := 11) rfl)))
  have O_is_loop_pipe : Ok P w K mg base 2 "is_loop_pipe" ["thing"] s_is_loop_pipe := by
    obtain ⟨fd, F⟩ := c.def_ (d := d_is_loop_pipe) (List.mem_of_getElem? (i := 7) rfl)
    exact ok_is_loop_pipe X0 O_is_name F (He.glo_ok X G (c.fact (f := .glo "is_loop_pipe") (List.mem_of_getElem? (i := 12) rfl)))
  have O_ends_of : Ok P w K mg base 1 "ends_of" ["pipes"] s_ends_of := by
    obtain ⟨fd, F⟩ := c.def_ (d := d_ends_of) (List.mem_of_getElem? (i := 8) rfl)
    exact ok_ends_of X0 F (He.glo_ok X G (c.fact (f := .glo "ends_of") (List.mem_of_getElem? (i := 13) rfl)))
  have M_Sum : MkO P w K mg base 3 "Sum" "parts" s_Sum_init (.non) := by
    obtain ⟨fd, F⟩ := c.def_ (d := d_Sum_init) (List.mem_of_getElem? (i := 30) rfl)
    exact mkO_of (He.glo_ok X G (c.fact (f := .glo "Sum") (List.mem_of_getElem? (i := 10) rfl))) (He.mkr_ok (c.fact (f := .mkr "Sum") (List.mem_of_getElem? (i := 64) rfl))) (ok_Sum_init X0 O_is_name O_is_from F) F (fun _ _ => .non) (fun _ _ _ _ _ _ _ _ _ _ => ⟨_, rfl, rfl⟩) (fun _ _ _ _ _ _ _ _ _ => ⟨_, rfl, rfl⟩) (fun _ _ _ _ _ _ _ _ _ _ => ⟨_, rfl, rfl⟩)
  have M_Loop : MkO P w K mg base 3 "Loop" "pipes" s_Loop_init (.tup []) := by
    obtain ⟨fd, F⟩ := c.def_ (d := d_Loop_init) (List.mem_of_getElem? (i := 31) rfl)
    exact mkO_of (He.glo_ok X G (c.fact (f := .glo "Loop") (List.mem_of_getElem? (i := 14) rfl))) (He.mkr_ok (c.fact (f := .mkr "Loop") (List.mem_of_getElem? (i := 65) rfl))) (ok_Loop_init X0 O_is_list X_BadLoop O_is_loop_pipe O_ends_of F) F (fun F H => tup0B_ok (ex_at c 10 rfl) F H) (fun _ _ _ _ _ _ _ _ _ _ => ⟨_, rfl, rfl⟩) (fun _ _ _ _ _ _ _ _ _ => ⟨_, rfl, rfl⟩) (fun _ _ _ _ _ _ _ _ _ _ => ⟨_, rfl, rfl⟩)
  have O_are_some_sizes : Ok P w K mg base 3 "are_some_sizes" ["thing"] s_are_some_sizes := by
    obtain ⟨fd, F⟩ := c.def_ (d := d_are_some_sizes) (List.mem_of_getElem? (i := 3) rfl)
    exact ok_are_some_sizes X0 O_is_name O_is_from F (He.glo_ok X G (c.fact (f := .glo "are_some_sizes") (List.mem_of_getElem? (i := 7) rfl)))
  have O_need_sizes : Ok P w K mg base 4 "need_sizes" ["names", "sizes"] s_need_sizes := by
    obtain ⟨fd, F⟩ := c.def_ (d := d_need_sizes) (List.mem_of_getElem? (i := 4) rfl)
    exact ok_need_sizes X0 O_are_some_sizes F (He.glo_ok X G (c.fact (f := .glo "need_sizes") (List.mem_of_getElem? (i := 8) rfl)))
  have O_worth_at : Ok P w K mg base 1 "worth_at" ["total", "sizes"] s_worth_at := by
    obtain ⟨fd, F⟩ := c.def_ (d := d_worth_at) (List.mem_of_getElem? (i := 5) rfl)
    exact ok_worth_at X0 F (He.glo_ok X G (c.fact (f := .glo "worth_at") (List.mem_of_getElem? (i := 9) rfl)))
  have O_numbers_at : Ok P w K mg base 2 "numbers_at" ["loop", "sizes"] s_numbers_at := by
    obtain ⟨fd, F⟩ := c.def_ (d := d_numbers_at) (List.mem_of_getElem? (i := 9) rfl)
    exact ok_numbers_at X0 O_worth_at F (He.glo_ok X G (c.fact (f := .glo "numbers_at") (List.mem_of_getElem? (i := 15) rfl)))
  have O_gathered : Ok P w K mg base 2 "gathered" ["pipes", "amounts"] s_gathered := by
    obtain ⟨fd, F⟩ := c.def_ (d := d_gathered) (List.mem_of_getElem? (i := 11) rfl)
    exact ok_gathered X0 O_ends_of F (He.glo_ok X G (c.fact (f := .glo "gathered") (List.mem_of_getElem? (i := 17) rfl)))
  have O_are_rounds_by : Ok P w K mg base 3 "are_rounds_by" ["pipes", "thing"] s_are_rounds_by := by
    obtain ⟨fd, F⟩ := c.def_ (d := d_are_rounds_by) (List.mem_of_getElem? (i := 10) rfl)
    exact ok_are_rounds_by X0 O_is_from O_gathered F (He.glo_ok X G (c.fact (f := .glo "are_rounds_by") (List.mem_of_getElem? (i := 16) rfl)))
  have O_roads_from : Ok P w K mg base 1 "roads_from" ["pipes", "amounts", "begins"] s_roads_from := by
    obtain ⟨fd, F⟩ := c.def_ (d := d_roads_from) (List.mem_of_getElem? (i := 12) rfl)
    exact ok_roads_from X0 F (He.glo_ok X G (c.fact (f := .glo "roads_from") (List.mem_of_getElem? (i := 18) rfl)))
  have O_begun_at : Ok P w K mg base 1 "begun_at" ["pipes", "road_steps"] s_begun_at := by
    obtain ⟨fd, F⟩ := c.def_ (d := d_begun_at) (List.mem_of_getElem? (i := 13) rfl)
    exact ok_begun_at X0 F (He.glo_ok X G (c.fact (f := .glo "begun_at") (List.mem_of_getElem? (i := 19) rfl)))
  have O_circulated : Ok P w K mg base 3 "circulated" ["pipes"] s_circulated := by
    obtain ⟨fd, F⟩ := c.def_ (d := d_circulated) (List.mem_of_getElem? (i := 14) rfl)
    exact ok_circulated X0 O_gathered O_roads_from O_begun_at F (He.glo_ok X G (c.fact (f := .glo "circulated") (List.mem_of_getElem? (i := 20) rfl)))
  have O_are_rounds : Ok P w K mg base 5 "are_rounds" ["loop", "sizes", "thing"] s_are_rounds := by
    obtain ⟨fd, F⟩ := c.def_ (d := d_are_rounds) (List.mem_of_getElem? (i := 15) rfl)
    exact ok_are_rounds X0 O_need_sizes O_are_rounds_by O_numbers_at F (He.glo_ok X G (c.fact (f := .glo "are_rounds") (List.mem_of_getElem? (i := 21) rfl)))
  have O_rounds_at : Ok P w K mg base 5 "rounds_at" ["loop", "sizes"] s_rounds_at := by
    obtain ⟨fd, F⟩ := c.def_ (d := d_rounds_at) (List.mem_of_getElem? (i := 16) rfl)
    exact ok_rounds_at X0 O_need_sizes O_circulated O_numbers_at F (He.glo_ok X G (c.fact (f := .glo "rounds_at") (List.mem_of_getElem? (i := 22) rfl)))
  have O_law_mixed : Ok P w K mg base 1 "_law_mixed" ["state"] s_law_mixed := by
    obtain ⟨fd, F⟩ := c.def_ (d := d_law_mixed) (List.mem_of_getElem? (i := 18) rfl)
    exact ok_law_mixed X0 F (He.glo_ok X G (c.fact (f := .glo "_law_mixed") (List.mem_of_getElem? (i := 24) rfl)))
  have O_law_draw : Ok P w K mg base 2 "_law_draw" ["state", "room"] s_law_draw := by
    obtain ⟨fd, F⟩ := c.def_ (d := d_law_draw) (List.mem_of_getElem? (i := 19) rfl)
    exact ok_law_draw X0 O_law_mixed F (He.glo_ok X G (c.fact (f := .glo "_law_draw") (List.mem_of_getElem? (i := 25) rfl)))
  have O_law_pick : Ok P w K mg base 3 "_law_pick" ["state", "some"] s_law_pick := by
    obtain ⟨fd, F⟩ := c.def_ (d := d_law_pick) (List.mem_of_getElem? (i := 20) rfl)
    exact ok_law_pick X0 O_law_draw F (He.glo_ok X G (c.fact (f := .glo "_law_pick") (List.mem_of_getElem? (i := 26) rfl)))
  have O_law_shuffled : Ok P w K mg base 3 "_law_shuffled" ["state", "some"] s_law_shuffled := by
    obtain ⟨fd, F⟩ := c.def_ (d := d_law_shuffled) (List.mem_of_getElem? (i := 21) rfl)
    exact ok_law_shuffled X0 O_law_draw F (He.glo_ok X G (c.fact (f := .glo "_law_shuffled") (List.mem_of_getElem? (i := 27) rfl)))
  have O_law_some_knots : Ok P w K mg base 4 "_law_some_knots" ["state", "most"] s_law_some_knots := by
    obtain ⟨fd, F⟩ := c.def_ (d := d_law_some_knots) (List.mem_of_getElem? (i := 24) rfl)
    exact ok_law_some_knots X0 O_law_shuffled O_law_draw F (He.glo_ok X G (c.fact (f := .glo "_law_some_knots") (List.mem_of_getElem? (i := 30) rfl)))
  have O_law_knots : Ok P w K mg base 1 "_law_knots" ["pipes"] s_law_knots := by
    obtain ⟨fd, F⟩ := c.def_ (d := d_law_knots) (List.mem_of_getElem? (i := 25) rfl)
    exact ok_law_knots X0 F (He.glo_ok X G (c.fact (f := .glo "_law_knots") (List.mem_of_getElem? (i := 31) rfl)))
  have O_law_tried : Ok P w K mg base 1 "_law_tried" ["pipes"] s_law_tried := by
    obtain ⟨fd, F⟩ := c.def_ (d := d_law_tried) (List.mem_of_getElem? (i := 26) rfl)
    exact ok_law_tried X0 F (He.glo_ok X G (c.fact (f := .glo "_law_tried") (List.mem_of_getElem? (i := 32) rfl)))
  have O_law_is_even : Ok P w K mg base 2 "_law_is_even" ["pipes", "amounts"] s_law_is_even := by
    obtain ⟨fd, F⟩ := c.def_ (d := d_law_is_even) (List.mem_of_getElem? (i := 27) rfl)
    exact ok_law_is_even X0 O_law_knots F (He.glo_ok X G (c.fact (f := .glo "_law_is_even") (List.mem_of_getElem? (i := 33) rfl)))
  have O_law_plain : ∀ n, Ok P w K mg base (n + 1) "_law_plain" ["thing_here"] (sP n) := by
    obtain ⟨fd, F⟩ := c.def_ (d := d_law_plain) (List.mem_of_getElem? (i := 22) rfl)
    exact ok_law_plain X0 F (He.glo_ok X G (c.fact (f := .glo "_law_plain") (List.mem_of_getElem? (i := 28) rfl)))
  have O_law_is : OkG P w K mg base 5 "_law_is" ["found", "due"] s_law_is := by
    obtain ⟨fd, F⟩ := c.def_ (d := d_law_is) (List.mem_of_getElem? (i := 23) rfl)
    exact ok_law_is X0 O_law_plain F (He.glo_ok X G (c.fact (f := .glo "_law_is") (List.mem_of_getElem? (i := 29) rfl)))
  obtain ⟨fdB, FB⟩ := c.def_ (d := d_law_begun) (List.mem_of_getElem? (i := 17) rfl)
  exact ok_law X0 O_law_is O_rounds_at M_Loop M_Sum O_law_some_knots O_law_draw O_law_pick O_law_tried O_law_is_even O_law_shuffled O_are_rounds FB (He.glo_ok X G (c.fact (f := .glo "_law_begun") (List.mem_of_getElem? (i := 23) rfl))) (FB.bindsN fun _ _ _ _ _ _ us hl => match us, hl with | [_], _ => rfl) F
theorem law_g {l : PySem.W.OpenLaw} {f : Addr} (X : K.In h) (G : h.Ns mainGlobals mg) (hfa : mg ("law" : Str) = some (.ref f)) (c : Says w h K) : LawG l w K (L2.CX l.prog w) 6 63 "script" mg f h := by
  obtain ⟨fd, F⟩ := c.def_ (d := d_law) (List.mem_of_getElem? (i := 28) rfl)
  have e := hfa.symm.trans (He.glo_ok X G (c.fact (f := .glo "law") (List.mem_of_getElem? (i := 34) rfl)))
  cases e
  have b := FunD.bindsA (ps := ["script"]) F fun _ _ _ _ _ _ us hl => match us, hl with | [_], _ => rfl
  exact ⟨fd, [], spLaw K [], (fun t ht => nomatch ht), (fun t ht => nomatch ht), (fun p hp => nomatch hp), fun s u => b s [u] rfl, fun H a ns hl _ hT hS => ⟨a, ns, rfl, hS, by omega, (fun p hp => nomatch hp), fun _ => rfl⟩, fun base X2 G2 TB => law_fn X G c F⟩
end
theorem top_name : (HandSHeadRun.topDef Rw.prog 44).name = ("law" : PySem.Str) := by kernel_rfl
end K28
open PySem PySem.W PySem.Calls PyProof.Rows
theorem PySem.Challenge.cw_anywidths_k28_whole_rounds_of_small_nets_holds : PySem.Challenge.rw_anywidths_k28_whole_rounds_of_small_nets.Holds := by
  w_on; o_law
  refine HandSHeadRun.head_any (r := OpenLaw.row PySem.Challenge.rw_anywidths_k28_whole_rounds_of_small_nets) (q := view (OpenLaw.row PySem.Challenge.rw_anywidths_k28_whole_rounds_of_small_nets).prog [44]) (H := K28.hk) (ob := K28.ob) (M := 4000) (loose := K28.loose) (d := HandSHeadRun.topDef (OpenLaw.row PySem.Challenge.rw_anywidths_k28_whole_rounds_of_small_nets).prog 44) (kwd := []) K28.ob_eq
    (by kernel_rfl) (fun s => by kernel_rfl) K28.run (by kernel_rfl) (by kernel_rfl) (by kernel_rfl) (by rfl) (by first | assumption | decide +kernel) (by decide +kernel) ⟨rfl, rfl, rfl, rfl, rfl, by decide +kernel⟩ ?hw ?hc
  case hw => w_witness2
  case hc =>
    refine DL.walk_ofG (l := PySem.Challenge.rw_anywidths_k28_whole_rounds_of_small_nets) (n := 63) (k := 6) (x := "script") (CX := fun w => L2.CX (PySem.Challenge.rw_anywidths_k28_whole_rounds_of_small_nets).prog w) rfl (by decide) (by kernel_rfl) ⟨rfl, by decide, by decide⟩ ?F (fun _ _ _ _ _ z => by
      obtain ⟨_, _, _, _, _, _, _, _, _, _, _, _, z⟩ := z
      exact z)
    intro w mg fa h Y G hmg0
    obtain ⟨K, KX, c⟩ := Y
    have hmg : mg ("law" : PySem.Str) = some (.ref fa) := by
      rw [← K28.top_name]
      exact hmg0
    exact ⟨K, KX, K28.law_g KX G hmg c⟩
