import PyProof.Rows.All
import Wide.All
import OpenK.AllK
import Wide.FinOn
import HandS.ForMost
import HandS.Exc
import HandS.WordsExc
import HandS.Defaults
import HandS.Codes
import HandS.IsInst
import HandS.Style
import HandS.Flow
import HandS.GenOver
import PyProof.GenQ
import HandS.GenCall
import HandS.GenList
import KE.KOpsOwn
import HandS.SetFor
import PyProof.EqAt
import HandS.TupAny
import HandS.Ends
import HandS.HeadEnd
import HandS.HeadHook1
import HandS.HeadHook2
import HandS.Head0
import HandS.Head1
import HandS.Head2
import KE.KStateDown
import PySem.Challenge.RW_elseput_k45_whole_interleavings
set_option Elab.async false
set_option linter.all false
set_option maxRecDepth 100000
set_option maxHeartbeats 0
/-! Lx, part A: data, what represents it, the state of a frame as data. -/
namespace Lx
open PySem PySem.Spec PyProof.Rows L2

/-- data: a value with all that it holds -/
inductive D where
  | non | bl (b : Bool) | int (i : Int) | str (x : Str) | adr (a : Addr) | ty (n : String)
  | lst (xs : List D) | tup (xs : List D) | tupS (xs : List D) | lstF (xs : List D)
  | dK (kvs : List (Key × D)) | dT (kvs : List (List Key × D))
  | ins (C : Addr) (fs : List (Str × D))

/-- a tuple of the heap, or one of the text's own -/
def TupAt (K : PySem.W.Frag) (S : Hp) (a : Addr) (vs : List V) : Prop := (S a = some (.tup vs) ∨ ∃ o, S a = some (.frz o (.tup vs)) ∧ o.dict = none) ∨
    ∃ (o : Obj) (its : Array Value) (n : Nat), K.lookup a = some o ∧ o.cls = .type "tuple" ∧ o.data = .seq its n ∧ its.size ≤ sizeLine ∧ Vals vs its.toList
theorem TupAt.sqT {K : PySem.W.Frag} {S : Hp} {a : Addr} {vs : List V} (h : TupAt K S a vs) : SqT K S a vs := by
  rcases h with (h | ⟨o, h, _⟩) | h
  · exact SqT.of h
  · exact .inl (.inr ⟨o, h⟩)
  · exact .inr h
mutual
/-- v stands for d over the (stable) heap S -/
def Rep (K : PySem.W.Frag) (S : Hp) : D → V → Prop
  | .non, v => v = .non
  | .bl b, v => v = .bl b
  | .int i, v => v = .int i
  | .str x, v => v = .str x
  | .adr a, v => v = .ref a
  | .ty n, v => v = .ty n
  | .lst ds, v => ∃ a vs, v = .ref a ∧ S a = some (.lst vs) ∧ Reps K S ds vs
  | .tup ds, v => ∃ a vs, v = .ref a ∧ TupAt K S a vs ∧ Reps K S ds vs
  | .lstF ds, v => ∃ a vs, v = .ref a ∧ SqL K S a vs ∧ Reps K S ds vs
  | .tupS ds, v => ∃ a vs, v = .ref a ∧ (∃ o, S a = some (.frz o (.tup vs)) ∧ o.dict = none) ∧ Reps K S ds vs
  | .dK kvs, v => ∃ a ws, v = .ref a ∧ Rd S a (.dK ws) ∧ RepK K S kvs ws
  | .dT kvs, v => ∃ a ws, v = .ref a ∧ Rd S a (.dT ws) ∧ RepT K S kvs ws
  | .ins C fs, v => ∃ a dx ws, v = .ref a ∧ S a = some (.ins C dx ws) ∧ RepF K S fs ws
def Reps (K : PySem.W.Frag) (S : Hp) : List D → List V → Prop
  | [], vs => vs = []
  | d :: ds, vs => ∃ v r, vs = v :: r ∧ Rep K S d v ∧ Reps K S ds r
def RepK (K : PySem.W.Frag) (S : Hp) : List (Key × D) → List (Key × V) → Prop
  | [], vs => vs = []
  | (k, d) :: ds, vs => ∃ v r, vs = (k, v) :: r ∧ Rep K S d v ∧ RepK K S ds r
def RepT (K : PySem.W.Frag) (S : Hp) : List (List Key × D) → List (List Key × V) → Prop
  | [], vs => vs = []
  | (k, d) :: ds, vs => ∃ v r, vs = (k, v) :: r ∧ Rep K S d v ∧ RepT K S ds r
def RepF (K : PySem.W.Frag) (S : Hp) : List (Str × D) → List (Str × V) → Prop
  | [], vs => vs = []
  | (k, d) :: ds, vs => ∃ v r, vs = (k, v) :: r ∧ Rep K S d v ∧ RepF K S ds r
end

/-- what data leans on -/
def isDat : HO → Prop
  | .lst _ => True
  | .tup _ => True
  | .ins _ _ _ => True
  | .xd _ => True
  | .frz _ (.tup _) => True
  | .frz _ (.lst _) => True
  | _ => False
/-- S' knows at least the data of S (a dict may be locked in either) -/
structure Ext (S S' : Hp) : Prop where
  at_ : ∀ a u, isDat u → S a = some u → S' a = some u
  dK : ∀ a ws, Rd S a (.dK ws) → Rd S' a (.dK ws)
  dT : ∀ a ws, Rd S a (.dT ws) → Rd S' a (.dT ws)
theorem Ext.refl (S : Hp) : Ext S S := ⟨fun _ _ _ h => h, fun _ _ h => h, fun _ _ h => h⟩
theorem Ext.trans {S S1 S2 : Hp} (a : Ext S S1) (b : Ext S1 S2) : Ext S S2 := ⟨fun x u d h => b.at_ x u d (a.at_ x u d h), fun x u h => b.dK x u (a.dK x u h), fun x u h => b.dT x u (a.dT x u h)⟩
theorem Ext.of_same {S S' : Hp} (h : Same S S') : Ext S S' := by
  refine ⟨fun a u _ r => h _ _ r, fun a u r => ?_, fun a u r => ?_⟩
  all_goals
    rcases r with r | ⟨o, r⟩
    · exact .inl (h _ _ r)
    · exact .inr ⟨o, h _ _ r⟩
theorem Ext.tup {K : PySem.W.Frag} {S S' : Hp} {a : Addr} {vs : List V} (e : Ext S S') (h : TupAt K S a vs) : TupAt K S' a vs := by
  rcases h with (h | ⟨o, h, d⟩) | h
  · exact .inl (.inl (e.at_ _ _ trivial h))
  · exact .inl (.inr ⟨o, e.at_ _ _ trivial h, d⟩)
  · exact .inr h
theorem Ext.sql {K : PySem.W.Frag} {S S' : Hp} {a : Addr} {vs : List V} (e : Ext S S') (h : SqL K S a vs) : SqL K S' a vs := by
  rcases h with (h | ⟨o, h⟩) | h
  · exact .inl (.inl (e.at_ _ _ trivial h))
  · exact .inl (.inr ⟨o, e.at_ _ _ trivial h⟩)
  · exact .inr h
mutual
theorem Rep.mono {K : PySem.W.Frag} {S S' : Hp} (e : Ext S S') : ∀ {d : D} {v : V}, Rep K S d v → Rep K S' d v
  | .non, _, h => h
  | .bl _, _, h => h
  | .int _, _, h => h
  | .str _, _, h => h
  | .adr _, _, h => h
  | .ty _, _, h => h
  | .lst _, _, ⟨a, vs, h1, h2, h3⟩ => ⟨a, vs, h1, e.at_ _ _ trivial h2, Reps.mono e h3⟩
  | .tup _, _, ⟨a, vs, h1, h2, h3⟩ => ⟨a, vs, h1, e.tup h2, Reps.mono e h3⟩
  | .lstF _, _, ⟨a, vs, h1, h2, h3⟩ => ⟨a, vs, h1, e.sql h2, Reps.mono e h3⟩
  | .tupS _, _, ⟨a, vs, h1, ⟨o, h2, d⟩, h3⟩ => ⟨a, vs, h1, ⟨o, e.at_ _ _ trivial h2, d⟩, Reps.mono e h3⟩
  | .dK _, _, ⟨a, vs, h1, h2, h3⟩ => ⟨a, vs, h1, e.dK _ _ h2, RepK.mono e h3⟩
  | .dT _, _, ⟨a, vs, h1, h2, h3⟩ => ⟨a, vs, h1, e.dT _ _ h2, RepT.mono e h3⟩
  | .ins _ _, _, ⟨a, dx, vs, h1, h2, h3⟩ => ⟨a, dx, vs, h1, e.at_ _ _ trivial h2, RepF.mono e h3⟩
theorem Reps.mono {K : PySem.W.Frag} {S S' : Hp} (e : Ext S S') : ∀ {d : List D} {v : List V}, Reps K S d v → Reps K S' d v
  | [], _, h => h
  | _ :: _, _, ⟨v, r, h1, h2, h3⟩ => ⟨v, r, h1, Rep.mono e h2, Reps.mono e h3⟩
theorem RepK.mono {K : PySem.W.Frag} {S S' : Hp} (e : Ext S S') : ∀ {d : List (Key × D)} {v : List (Key × V)}, RepK K S d v → RepK K S' d v
  | [], _, h => h
  | (_, _) :: _, _, ⟨v, r, h1, h2, h3⟩ => ⟨v, r, h1, Rep.mono e h2, RepK.mono e h3⟩
theorem RepT.mono {K : PySem.W.Frag} {S S' : Hp} (e : Ext S S') : ∀ {d : List (List Key × D)} {v : List (List Key × V)}, RepT K S d v → RepT K S' d v
  | [], _, h => h
  | (_, _) :: _, _, ⟨v, r, h1, h2, h3⟩ => ⟨v, r, h1, Rep.mono e h2, RepT.mono e h3⟩
theorem RepF.mono {K : PySem.W.Frag} {S S' : Hp} (e : Ext S S') : ∀ {d : List (Str × D)} {v : List (Str × V)}, RepF K S d v → RepF K S' d v
  | [], _, h => h
  | (_, _) :: _, _, ⟨v, r, h1, h2, h3⟩ => ⟨v, r, h1, Rep.mono e h2, RepF.mono e h3⟩
end
section
variable {K : PySem.W.Frag} {S : Hp}
theorem Reps.length : ∀ {ds : List D} {vs : List V}, Reps K S ds vs → vs.length = ds.length
  | [], _, h => by
    have h' : _ = [] := h
    rw [h']
    rfl
  | _ :: ds, _, ⟨v, r, h1, _, h3⟩ => by
    subst h1
    rw [List.length_cons, List.length_cons, Reps.length h3]
theorem Reps.nil_inv {vs : List V} (h : Reps K S [] vs) : vs = [] := h
theorem Reps.get : ∀ {ds : List D} {vs : List V} {i : Nat} {d : D}, Reps K S ds vs → ds[i]? = some d → ∃ v, vs[i]? = some v ∧ Rep K S d v
  | [], _, _, _, _, e => by simp at e
  | d :: ds, _, 0, x, ⟨v, r, h1, h2, _⟩, e => by
    simp at e
    subst e
    subst h1
    exact ⟨v, rfl, h2⟩
  | d :: ds, _, i + 1, x, ⟨v, r, h1, _, h3⟩, e => by
    subst h1
    obtain ⟨w, h4, h5⟩ := Reps.get (i := i) h3 (by simpa using e)
    exact ⟨w, by simpa using h4, h5⟩
theorem Reps.getV : ∀ {ds : List D} {vs : List V} {i : Nat} {v : V}, Reps K S ds vs → vs[i]? = some v → ∃ d, ds[i]? = some d ∧ Rep K S d v
  | [], vs, _, _, h, e => by
    have h' : vs = [] := h
    subst h'
    simp at e
  | d :: ds, _, 0, x, ⟨v, r, h1, h2, _⟩, e => by
    subst h1
    simp at e
    subst e
    exact ⟨d, rfl, h2⟩
  | d :: ds, _, i + 1, x, ⟨v, r, h1, _, h3⟩, e => by
    subst h1
    obtain ⟨w, h4, h5⟩ := Reps.getV (i := i) h3 (by simpa using e)
    exact ⟨w, by simpa using h4, h5⟩
theorem Reps.append : ∀ {ds es : List D} {vs ws : List V}, Reps K S ds vs → Reps K S es ws → Reps K S (ds ++ es) (vs ++ ws)
  | [], es, vs, ws, h, h' => by
    have e : vs = [] := h
    subst e
    exact h'
  | d :: ds, es, _, ws, ⟨v, r, h1, h2, h3⟩, h' => by
    subst h1
    exact ⟨v, r ++ ws, rfl, h2, Reps.append h3 h'⟩
theorem Reps.one {d : D} {v : V} (h : Rep K S d v) : Reps K S [d] [v] := ⟨v, [], rfl, h, rfl⟩
theorem Reps.take : ∀ {ds : List D} {vs : List V} (n : Nat), Reps K S ds vs → Reps K S (ds.take n) (vs.take n)
  | [], vs, n, h => by
    have e : vs = [] := h
    subst e
    simp [Reps]
  | _ :: _, _, 0, _ => rfl
  | d :: ds, _, n + 1, ⟨v, r, h1, h2, h3⟩ => by
    subst h1
    exact ⟨v, r.take n, rfl, h2, Reps.take n h3⟩
theorem Reps.drop : ∀ {ds : List D} {vs : List V} (n : Nat), Reps K S ds vs → Reps K S (ds.drop n) (vs.drop n)
  | [], vs, n, h => by
    have e : vs = [] := h
    subst e
    simp [Reps]
  | _ :: _, _, 0, h => h
  | d :: ds, _, n + 1, ⟨v, r, h1, h2, h3⟩ => by
    subst h1
    exact Reps.drop n h3
theorem Reps.reverse : ∀ {ds : List D} {vs : List V}, Reps K S ds vs → Reps K S ds.reverse vs.reverse
  | [], vs, h => by
    have e : vs = [] := h
    subst e
    exact rfl
  | d :: ds, _, ⟨v, r, h1, h2, h3⟩ => by
    subst h1
    rw [List.reverse_cons, List.reverse_cons]
    exact (Reps.reverse h3).append (Reps.one h2)
theorem Reps.set : ∀ {ds : List D} {vs : List V} (i : Nat) {d : D} {v : V}, Rep K S d v → Reps K S ds vs → Reps K S (ds.set i d) (vs.set i v)
  | [], vs, i, d, v, _, h => by
    have e : vs = [] := h
    subst e
    simp [Reps]
  | _ :: _, _, 0, d, v, hd, ⟨w, r, h1, h2, h3⟩ => by
    subst h1
    exact ⟨v, r, rfl, hd, h3⟩
  | _ :: _, _, i + 1, d, v, hd, ⟨w, r, h1, h2, h3⟩ => by
    subst h1
    exact ⟨w, r.set i v, rfl, h2, Reps.set i hd h3⟩
theorem RepF.lookup : ∀ {fs : List (Str × D)} {ws : List (Str × V)} {f : Str} {d : D}, RepF K S fs ws → fs.lookup f = some d → ∃ v, ws.lookup f = some v ∧ Rep K S d v
  | [], _, _, _, _, e => by simp at e
  | (k, x) :: fs, _, f, d, ⟨v, r, h1, h2, h3⟩, e => by
    subst h1
    rw [List.lookup_cons] at e ⊢
    cases q : (f == k) with
    | true =>
      rw [q] at e
      have e2 : x = d := Option.some.inj e
      subst e2
      exact ⟨v, rfl, h2⟩
    | false =>
      rw [q] at e
      exact RepF.lookup h3 e
theorem RepF.lookup_none : ∀ {fs : List (Str × D)} {ws : List (Str × V)} {f : Str}, RepF K S fs ws → fs.lookup f = none → ws.lookup f = none
  | [], ws, _, h, _ => by
    have e : ws = [] := h
    subst e
    rfl
  | (k, x) :: fs, _, f, ⟨v, r, h1, h2, h3⟩, e => by
    subst h1
    rw [List.lookup_cons] at e ⊢
    cases q : (f == k) with
    | true =>
      rw [q] at e
      cases e
    | false =>
      rw [q] at e
      exact RepF.lookup_none h3 e
theorem RepF.length : ∀ {fs : List (Str × D)} {ws : List (Str × V)}, RepF K S fs ws → ws.length = fs.length
  | [], _, h => by
    have h' : _ = [] := h
    rw [h']
    rfl
  | (_, _) :: ds, _, ⟨v, r, h1, _, h3⟩ => by
    subst h1
    rw [List.length_cons, List.length_cons, RepF.length h3]
theorem RepK.length : ∀ {fs : List (Key × D)} {ws : List (Key × V)}, RepK K S fs ws → ws.length = fs.length
  | [], _, h => by
    have h' : _ = [] := h
    rw [h']
    rfl
  | (_, _) :: ds, _, ⟨v, r, h1, _, h3⟩ => by
    subst h1
    rw [List.length_cons, List.length_cons, RepK.length h3]
end

/-! ### what a frame holds -/
/-- an entry: data that stands still, or a bare value (an address of what is owned) -/
inductive En where
  | d (x : D) | raw (v : V)
/-- what is owned: an object that the code at hand may change -/
inductive OO where
  | lst (xs : List En) | dK (kvs : List (Key × En)) | dT (kvs : List (List Key × En)) | ins (C : Addr) (fs : List (Str × En)) | set (S : Int → Bool) (n : Nat)
abbrev OE := Addr × OO
structure Env where
  G : List (Option En)
  O : List OE
def hide (O : List Addr) (H : Hp) : Hp := fun a => if a ∈ O then none else H a
theorem hide_in {O : List Addr} {H : Hp} {a : Addr} (h : a ∈ O) : hide O H a = none := if_pos h
theorem hide_out {O : List Addr} {H : Hp} {a : Addr} (h : a ∉ O) : hide O H a = H a := if_neg h
theorem hide_some {O : List Addr} {H : Hp} {a : Addr} {o : HO} (h : hide O H a = some o) : a ∉ O ∧ H a = some o := by
  by_cases m : a ∈ O
  · rw [hide_in m] at h
    cases h
  · rw [hide_out m] at h
    exact ⟨m, h⟩
theorem hide_same {O : List Addr} {H : Hp} : Same (hide O H) H := fun b o e => (hide_some e).2
theorem hide_upd {O : List Addr} {H : Hp} {a : Addr} {o : HO} (h : a ∈ O) : hide O (upd H a o) = hide O H := by
  funext b
  by_cases m : b ∈ O
  · rw [hide_in m, hide_in m]
  · rw [hide_out m, hide_out m, upd_ne (fun e => m (by rw [e]; exact h))]
theorem hide_congr {O O' : List Addr} {H : Hp} (h : ∀ a, a ∈ O ↔ a ∈ O') : hide O H = hide O' H := by
  funext b
  by_cases m : b ∈ O
  · rw [hide_in m, hide_in ((h b).mp m)]
  · rw [hide_out m, hide_out (fun z => m ((h b).mpr z))]
theorem hide_mono {O : List Addr} {H H' : Hp} (h : Same H H') : Same (hide O H) (hide O H') := fun b o e => by
  obtain ⟨m, e⟩ := hide_some e
  rw [hide_out m]
  exact h _ _ e
/-- fewer are hidden -/
theorem hide_sub {O O' : List Addr} {H : Hp} (h : ∀ a, a ∈ O' → a ∈ O) : Same (hide O H) (hide O' H) := fun b o e => by
  obtain ⟨m, e⟩ := hide_some e
  rw [hide_out fun z => m (h b z)]
  exact e
def EnOk (K : PySem.W.Frag) (S : Hp) : En → V → Prop
  | .d x, v => Rep K S x v
  | .raw w, v => v = w
theorem EnOk.mono {K : PySem.W.Frag} {S S' : Hp} (e : Ext S S') {r : En} {v : V} (h : EnOk K S r v) : EnOk K S' r v := by
  cases r with
  | d x => exact Rep.mono e h
  | raw w => exact h
def EnsOk (K : PySem.W.Frag) (S : Hp) : List En → List V → Prop
  | [], vs => vs = []
  | d :: ds, vs => ∃ v r, vs = v :: r ∧ EnOk K S d v ∧ EnsOk K S ds r
/-- keyed entries -/
def EnKOk {κ : Type} (K : PySem.W.Frag) (S : Hp) : List (κ × En) → List (κ × V) → Prop
  | [], vs => vs = []
  | (k, d) :: ds, vs => ∃ v r, vs = (k, v) :: r ∧ EnOk K S d v ∧ EnKOk K S ds r
section
variable {K : PySem.W.Frag} {S S' : Hp}
theorem EnsOk.mono (e : Ext S S') : ∀ {ds : List En} {vs : List V}, EnsOk K S ds vs → EnsOk K S' ds vs
  | [], _, h => h
  | _ :: _, _, ⟨v, r, h1, h2, h3⟩ => ⟨v, r, h1, h2.mono e, EnsOk.mono e h3⟩
theorem EnKOk.mono {κ : Type} (e : Ext S S') : ∀ {ds : List (κ × En)} {vs : List (κ × V)}, EnKOk K S ds vs → EnKOk K S' ds vs
  | [], _, h => h
  | (_, _) :: _, _, ⟨v, r, h1, h2, h3⟩ => ⟨v, r, h1, h2.mono e, EnKOk.mono e h3⟩
theorem EnsOk.length : ∀ {ds : List En} {vs : List V}, EnsOk K S ds vs → vs.length = ds.length
  | [], _, h => by
    have h' : _ = [] := h
    rw [h']
    rfl
  | _ :: ds, _, ⟨v, r, h1, _, h3⟩ => by
    subst h1
    rw [List.length_cons, List.length_cons, EnsOk.length h3]
theorem EnKOk.length {κ : Type} : ∀ {ds : List (κ × En)} {vs : List (κ × V)}, EnKOk K S ds vs → vs.length = ds.length
  | [], _, h => by
    have h' : _ = [] := h
    rw [h']
    rfl
  | (_, _) :: ds, _, ⟨v, r, h1, _, h3⟩ => by
    subst h1
    rw [List.length_cons, List.length_cons, EnKOk.length h3]
theorem EnsOk.get : ∀ {ds : List En} {vs : List V} {i : Nat} {d : En}, EnsOk K S ds vs → ds[i]? = some d → ∃ v, vs[i]? = some v ∧ EnOk K S d v
  | [], _, _, _, _, e => by simp at e
  | d :: ds, _, 0, x, ⟨v, r, h1, h2, _⟩, e => by
    simp at e
    subst e
    subst h1
    exact ⟨v, rfl, h2⟩
  | d :: ds, _, i + 1, x, ⟨v, r, h1, _, h3⟩, e => by
    subst h1
    obtain ⟨w, h4, h5⟩ := EnsOk.get (i := i) h3 (by simpa using e)
    exact ⟨w, by simpa using h4, h5⟩
theorem EnsOk.getV : ∀ {ds : List En} {vs : List V} {i : Nat} {v : V}, EnsOk K S ds vs → vs[i]? = some v → ∃ d, ds[i]? = some d ∧ EnOk K S d v
  | [], vs, _, _, h, e => by
    have h' : vs = [] := h
    subst h'
    simp at e
  | d :: ds, _, 0, x, ⟨v, r, h1, h2, _⟩, e => by
    subst h1
    simp at e
    subst e
    exact ⟨d, rfl, h2⟩
  | d :: ds, _, i + 1, x, ⟨v, r, h1, _, h3⟩, e => by
    subst h1
    obtain ⟨w, h4, h5⟩ := EnsOk.getV (i := i) h3 (by simpa using e)
    exact ⟨w, by simpa using h4, h5⟩
theorem EnsOk.append : ∀ {ds es : List En} {vs ws : List V}, EnsOk K S ds vs → EnsOk K S es ws → EnsOk K S (ds ++ es) (vs ++ ws)
  | [], es, vs, ws, h, h' => by
    have e : vs = [] := h
    subst e
    exact h'
  | d :: ds, es, _, ws, ⟨v, r, h1, h2, h3⟩, h' => by
    subst h1
    exact ⟨v, r ++ ws, rfl, h2, EnsOk.append h3 h'⟩
theorem EnsOk.one {d : En} {v : V} (h : EnOk K S d v) : EnsOk K S [d] [v] := ⟨v, [], rfl, h, rfl⟩
theorem EnsOk.set : ∀ {ds : List En} {vs : List V} (i : Nat) {d : En} {v : V}, EnOk K S d v → EnsOk K S ds vs → EnsOk K S (ds.set i d) (vs.set i v)
  | [], vs, i, d, v, _, h => by
    have e : vs = [] := h
    subst e
    simp [EnsOk]
  | _ :: _, _, 0, d, v, hd, ⟨w, r, h1, h2, h3⟩ => by
    subst h1
    exact ⟨v, r, rfl, hd, h3⟩
  | _ :: _, _, i + 1, d, v, hd, ⟨w, r, h1, h2, h3⟩ => by
    subst h1
    exact ⟨w, r.set i v, rfl, h2, EnsOk.set i hd h3⟩
theorem EnsOk.reps : ∀ {ds : List D} {vs : List V}, EnsOk K S (ds.map .d) vs → Reps K S ds vs
  | [], _, h => h
  | _ :: _, _, ⟨v, r, h1, h2, h3⟩ => ⟨v, r, h1, h2, EnsOk.reps h3⟩
theorem EnsOk.of_reps : ∀ {ds : List D} {vs : List V}, Reps K S ds vs → EnsOk K S (ds.map .d) vs
  | [], _, h => h
  | _ :: _, _, ⟨v, r, h1, h2, h3⟩ => ⟨v, r, h1, h2, EnsOk.of_reps h3⟩
theorem EnKOk.lookup : ∀ {fs : List (Str × En)} {ws : List (Str × V)} {f : Str} {d : En}, EnKOk K S fs ws → fs.lookup f = some d → ∃ v, ws.lookup f = some v ∧ EnOk K S d v
  | [], _, _, _, _, e => by simp at e
  | (k, x) :: fs, _, f, d, ⟨v, r, h1, h2, h3⟩, e => by
    subst h1
    rw [List.lookup_cons] at e ⊢
    cases q : (f == k) with
    | true =>
      rw [q] at e
      have e2 : x = d := Option.some.inj e
      subst e2
      exact ⟨v, rfl, h2⟩
    | false =>
      rw [q] at e
      exact EnKOk.lookup h3 e
theorem EnKOk.lookup_none : ∀ {fs : List (Str × En)} {ws : List (Str × V)} {f : Str}, EnKOk K S fs ws → fs.lookup f = none → ws.lookup f = none
  | [], ws, _, h, _ => by
    have e : ws = [] := h
    subst e
    rfl
  | (k, x) :: fs, _, f, ⟨v, r, h1, h2, h3⟩, e => by
    subst h1
    rw [List.lookup_cons] at e ⊢
    cases q : (f == k) with
    | true =>
      rw [q] at e
      cases e
    | false =>
      rw [q] at e
      exact EnKOk.lookup_none h3 e
theorem EnKOk.repF : ∀ {ds : List (Str × D)} {vs : List (Str × V)}, EnKOk K S (ds.map fun p => (p.1, En.d p.2)) vs → RepF K S ds vs
  | [], _, h => h
  | (_, _) :: _, _, ⟨v, r, h1, h2, h3⟩ => ⟨v, r, h1, h2, EnKOk.repF h3⟩
theorem EnKOk.repK : ∀ {ds : List (Key × D)} {vs : List (Key × V)}, EnKOk K S (ds.map fun p => (p.1, En.d p.2)) vs → RepK K S ds vs
  | [], _, h => h
  | (_, _) :: _, _, ⟨v, r, h1, h2, h3⟩ => ⟨v, r, h1, h2, EnKOk.repK h3⟩
theorem EnKOk.repT : ∀ {ds : List (List Key × D)} {vs : List (List Key × V)}, EnKOk K S (ds.map fun p => (p.1, En.d p.2)) vs → RepT K S ds vs
  | [], _, h => h
  | (_, _) :: _, _, ⟨v, r, h1, h2, h3⟩ => ⟨v, r, h1, h2, EnKOk.repT h3⟩
theorem EnKOk.of_repK : ∀ {ds : List (Key × D)} {vs : List (Key × V)}, RepK K S ds vs → EnKOk K S (ds.map fun p => (p.1, En.d p.2)) vs
  | [], _, h => h
  | (_, _) :: _, _, ⟨v, r, h1, h2, h3⟩ => ⟨v, r, h1, h2, EnKOk.of_repK h3⟩
theorem EnKOk.of_repF : ∀ {ds : List (Str × D)} {vs : List (Str × V)}, RepF K S ds vs → EnKOk K S (ds.map fun p => (p.1, En.d p.2)) vs
  | [], _, h => h
  | (_, _) :: _, _, ⟨v, r, h1, h2, h3⟩ => ⟨v, r, h1, h2, EnKOk.of_repF h3⟩
/-- a field is stored -/
def putP {α : Type} (f : Str) (v : α) : List (Str × α) → List (Str × α)
  | [] => [(f, v)]
  | (g, u) :: r => if g = f then (g, v) :: r else (g, u) :: putP f v r
theorem EnKOk.putF {f : Str} {d : En} {v : V} (hd : EnOk K S d v) : ∀ {fs : List (Str × En)} {ws : List (Str × V)}, EnKOk K S fs ws → EnKOk K S (putP f d fs) (L2.putF f v ws)
  | [], ws, h => by
    have e : ws = [] := h
    subst e
    exact ⟨v, [], rfl, hd, rfl⟩
  | (g, u) :: r, _, ⟨w, ws, h1, h2, h3⟩ => by
    subst h1
    show EnKOk K S (if g = f then (g, d) :: r else (g, u) :: putP f d r) (if g = f then (g, v) :: ws else (g, w) :: L2.putF f v ws)
    by_cases e : g = f
    · rw [if_pos e, if_pos e]
      exact ⟨v, ws, rfl, hd, h3⟩
    · rw [if_neg e, if_neg e]
      exact ⟨w, L2.putF f v ws, rfl, h2, EnKOk.putF hd h3⟩
end
end Lx

/-! Lx, part B: the state as data, what evaluates to what, statements. -/
namespace Lx
open PySem PySem.Spec PyProof.Rows L2

def OOok (K : PySem.W.Frag) (S : Hp) : OO → HO → Prop
  | .lst xs, o => ∃ vs, o = .lst vs ∧ EnsOk K S xs vs
  | .dK kvs, o => ∃ ws, o = .dK ws ∧ EnKOk K S kvs ws
  | .dT kvs, o => ∃ ws, o = .dT ws ∧ EnKOk K S kvs ws
  | .ins C fs, o => ∃ dx ws, o = .ins C dx ws ∧ EnKOk K S fs ws
  | .set s n, o => o = .set s n
theorem OOok.mono {K : PySem.W.Frag} {S S' : Hp} (e : Ext S S') {x : OO} {o : HO} (h : OOok K S x o) : OOok K S' x o := by
  cases x with
  | lst xs => obtain ⟨vs, h1, h2⟩ := h; exact ⟨vs, h1, h2.mono e⟩
  | dK xs => obtain ⟨vs, h1, h2⟩ := h; exact ⟨vs, h1, h2.mono e⟩
  | dT xs => obtain ⟨vs, h1, h2⟩ := h; exact ⟨vs, h1, h2.mono e⟩
  | ins C fs => obtain ⟨dx, ws, h1, h2⟩ := h; exact ⟨dx, ws, h1, h2.mono e⟩
  | set s n => exact h
abbrev own (O : List OE) : List Addr := O.map (·.1)
abbrev stab (Oc : List Addr) (H : Hp) (O : List OE) : Hp := hide (Oc ++ own O) H
def SlotOk (K : PySem.W.Frag) (S : Hp) : Option En → Option V → Prop
  | none, _ => True
  | some e, v => ∃ u, v = some u ∧ EnOk K S e u
def Slots (K : PySem.W.Frag) (S : Hp) : List (Option En) → L2.St → Prop
  | [], σ => σ = []
  | g :: gs, σ => ∃ v r, σ = v :: r ∧ SlotOk K S g v ∧ Slots K S gs r
section
variable {K : PySem.W.Frag} {S S' : Hp}
theorem SlotOk.mono (e : Ext S S') {g : Option En} {v : Option V} (h : SlotOk K S g v) : SlotOk K S' g v := by
  cases g with
  | none => trivial
  | some x => obtain ⟨u, h1, h2⟩ := h; exact ⟨u, h1, h2.mono e⟩
theorem Slots.mono (e : Ext S S') : ∀ {gs : List (Option En)} {σ : L2.St}, Slots K S gs σ → Slots K S' gs σ
  | [], _, h => h
  | _ :: _, _, ⟨v, r, h1, h2, h3⟩ => ⟨v, r, h1, h2.mono e, Slots.mono e h3⟩
theorem Slots.get : ∀ {gs : List (Option En)} {σ : L2.St} {i : Nat} {x : En}, Slots K S gs σ → gs[i]? = some (some x) → ∃ u, σ[i]? = some (some u) ∧ EnOk K S x u
  | [], _, _, _, _, e => by simp at e
  | g :: gs, _, 0, x, ⟨v, r, h1, h2, _⟩, e => by
    simp at e
    subst e
    subst h1
    obtain ⟨u, h3, h4⟩ := h2
    subst h3
    exact ⟨u, rfl, h4⟩
  | g :: gs, _, i + 1, x, ⟨v, r, h1, _, h3⟩, e => by
    subst h1
    obtain ⟨w, h4, h5⟩ := Slots.get (i := i) h3 (by simpa using e)
    exact ⟨w, by simpa using h4, h5⟩
theorem Slots.set {x : En} {u : V} (hx : EnOk K S x u) : ∀ {gs : List (Option En)} {σ : L2.St} (i : Nat), Slots K S gs σ → Slots K S (gs.set i (some x)) (σ.set i (some u))
  | [], σ, i, h => by
    have e : σ = [] := h
    subst e
    simp [Slots]
  | _ :: _, _, 0, ⟨v, r, h1, h2, h3⟩ => by
    subst h1
    exact ⟨some u, r, rfl, ⟨u, rfl, hx⟩, h3⟩
  | _ :: _, _, i + 1, ⟨v, r, h1, h2, h3⟩ => by
    subst h1
    exact ⟨v, r.set i (some u), rfl, h2, Slots.set hx i h3⟩
/-- a slot is forgotten -/
theorem Slots.forget : ∀ {gs : List (Option En)} {σ : L2.St} (i : Nat), Slots K S gs σ → Slots K S (gs.set i none) σ
  | [], σ, i, h => by
    have e : σ = [] := h
    subst e
    simp [Slots]
  | _ :: _, _, 0, ⟨v, r, h1, h2, h3⟩ => ⟨v, r, h1, trivial, h3⟩
  | _ :: _, _, i + 1, ⟨v, r, h1, h2, h3⟩ => ⟨v, r, h1, h2, Slots.forget i h3⟩
theorem Slots.length : ∀ {gs : List (Option En)} {σ : L2.St}, Slots K S gs σ → σ.length = gs.length
  | [], _, h => by
    have h' : _ = [] := h
    rw [h']
    rfl
  | _ :: ds, _, ⟨v, r, h1, _, h3⟩ => by
    subst h1
    rw [List.length_cons, List.length_cons, Slots.length h3]
theorem Slots.append : ∀ {ds es : List (Option En)} {vs ws : L2.St}, Slots K S ds vs → Slots K S es ws → Slots K S (ds ++ es) (vs ++ ws)
  | [], es, vs, ws, h, h' => by
    have e : vs = [] := h
    subst e
    exact h'
  | d :: ds, es, _, ws, ⟨v, r, h1, h2, h3⟩, h' => by
    subst h1
    exact ⟨v, r ++ ws, rfl, h2, Slots.append h3 h'⟩
theorem Slots.nones : ∀ n : Nat, Slots K S (List.replicate n none) (List.replicate n none)
  | 0 => rfl
  | n + 1 => ⟨none, List.replicate n none, rfl, trivial, Slots.nones n⟩
theorem Slots.of_ens : ∀ {ds : List En} {vs : List V}, EnsOk K S ds vs → Slots K S (ds.map some) (vs.map some)
  | [], vs, h => by
    have e : vs = [] := h
    subst e
    exact rfl
  | _ :: _, _, ⟨v, r, h1, h2, h3⟩ => by
    subst h1
    exact ⟨some v, r.map some, rfl, ⟨v, rfl, h2⟩, Slots.of_ens h3⟩
theorem Slots.ens : ∀ {ds : List En} {vs : List V}, Slots K S (ds.map some) (vs.map some) → EnsOk K S ds vs
  | [], vs, h => by
    have e : vs.map some = [] := h
    exact List.map_eq_nil_iff.mp e
  | d :: ds, [], ⟨v, r, h1, _, _⟩ => by cases h1
  | d :: ds, u :: us, ⟨v, r, h1, h2, h3⟩ => by
    have e : some u :: us.map some = v :: r := h1
    injection e with e1 e2
    subst e1 e2
    obtain ⟨w, h4, h5⟩ := h2
    injection h4 with h4
    subst h4
    exact ⟨u, us, rfl, h5, Slots.ens h3⟩
end
/-- what bounds a state: Oc what the callers own, B what stands at the def's entry (and is neither theirs that was lent, nor ours), S data that is known to stand -/
structure Bd where
  Oc : List Addr
  B : Hp
  S : Hp
/-- THE STATE -/
structure Good (K : PySem.W.Frag) (bd : Bd) (σ : L2.St) (H : Hp) (E : Env) : Prop where
  ocB : ∀ q ∈ bd.Oc, ∃ o, bd.B q = some o
  same : Same bd.B H
  low : Ext bd.S (stab bd.Oc H E.O)
  fresh : ∀ q ∈ own E.O, bd.B q = none
  nd : (own E.O).Nodup
  slots : Slots K (stab bd.Oc H E.O) E.G σ
  objs : ∀ q ∈ E.O, ∃ o, H q.1 = some o ∧ OOok K (stab bd.Oc H E.O) q.2 o
section
variable {K : PySem.W.Frag} {bd : Bd} {H H' : Hp} {σ : L2.St} {E : Env} {G : List (Option En)} {O O' : List OE} {p : Addr} {o : OO}
theorem Good.dis (g : Good K bd σ H E) : ∀ a ∈ own E.O, a ∉ bd.Oc := fun a ha hc => by
  obtain ⟨o, e⟩ := g.ocB a hc
  rw [g.fresh a ha] at e
  cases e
/-- the heap has grown -/
theorem Good.grow (g : Good K bd σ H E) (h : Same H H') : Good K bd σ H' E where
  ocB := g.ocB
  same := g.same.trans h
  low := g.low.trans (Ext.of_same (hide_mono h))
  fresh := g.fresh
  nd := g.nd
  slots := g.slots.mono (Ext.of_same (hide_mono h))
  objs := fun q hq => by
    obtain ⟨o, e, k⟩ := g.objs q hq
    exact ⟨o, h _ _ e, k.mono (Ext.of_same (hide_mono h))⟩
theorem Good.slot (g : Good K bd σ H E) {i : Nat} {x : En} (e : E.G[i]? = some (some x)) : ∃ u, σ[i]? = some (some u) ∧ EnOk K (stab bd.Oc H E.O) x u := g.slots.get e
theorem Good.set (g : Good K bd σ H E) (i : Nat) {x : En} {u : V} (hx : EnOk K (stab bd.Oc H E.O) x u) : Good K bd (σ.set i (some u)) H ⟨E.G.set i (some x), E.O⟩ :=
  ⟨g.ocB, g.same, g.low, g.fresh, g.nd, g.slots.set hx i, g.objs⟩
theorem Good.forget (g : Good K bd σ H E) (i : Nat) : Good K bd σ H ⟨E.G.set i none, E.O⟩ := ⟨g.ocB, g.same, g.low, g.fresh, g.nd, g.slots.forget i, g.objs⟩
/-- only what is owned -/
theorem Good.bare (g : Good K bd σ H E) : Good K bd [] H ⟨[], E.O⟩ := ⟨g.ocB, g.same, g.low, g.fresh, g.nd, rfl, g.objs⟩
theorem Good.one (g : Good K bd σ H E) {x : En} {u : V} (hx : EnOk K (stab bd.Oc H E.O) x u) : Good K bd [some u] H ⟨[some x], E.O⟩ :=
  ⟨g.ocB, g.same, g.low, g.fresh, g.nd, ⟨some u, [], rfl, ⟨u, rfl, hx⟩, rfl⟩, g.objs⟩
theorem Good.re (g : Good K bd σ H E) {σ' : L2.St} {G' : List (Option En)} (h : Slots K (stab bd.Oc H E.O) G' σ') : Good K bd σ' H ⟨G', E.O⟩ := ⟨g.ocB, g.same, g.low, g.fresh, g.nd, h, g.objs⟩
/-- a new object that we own -/
theorem Good.new (g : Good K bd σ H E) {u : HO} (hn : H p = none) (hu : OOok K (stab bd.Oc H E.O) o u) : Good K bd σ (upd H p u) ⟨E.G, (p, o) :: E.O⟩ ∧ Ext (stab bd.Oc H E.O) (stab bd.Oc (upd H p u) ((p, o) :: E.O)) := by
  have ne : ∀ b x, H b = some x → b ≠ p := fun b x e => ne_of_none e hn
  have sm : Same H (upd H p u) := fun b x e => by rw [upd_ne (ne b x e)]; exact e
  have hp : p ∉ own E.O := fun h => by
    obtain ⟨q, hq, rfl⟩ := List.mem_map.mp h
    obtain ⟨o, e, _⟩ := g.objs q hq
    rw [hn] at e
    cases e
  have ex : Same (stab bd.Oc H E.O) (stab bd.Oc (upd H p u) ((p, o) :: E.O)) := fun b x e => by
    obtain ⟨m, e⟩ := hide_some e
    have m2 : b ∉ bd.Oc ++ own ((p, o) :: E.O) := fun h => by
      rcases List.mem_append.mp h with h | h
      · exact m (List.mem_append_left _ h)
      · rcases List.mem_cons.mp h with h | h
        · exact ne b x e h
        · exact m (List.mem_append_right _ h)
    show hide (bd.Oc ++ own ((p, o) :: E.O)) (upd H p u) b = some x
    rw [hide_out m2]
    exact sm _ _ e
  refine ⟨⟨g.ocB, g.same.trans sm, g.low.trans (Ext.of_same ex), fun q hq => ?_, List.nodup_cons.mpr ⟨hp, g.nd⟩, g.slots.mono (Ext.of_same ex), fun q hq => ?_⟩, Ext.of_same ex⟩
  · rcases List.mem_cons.mp hq with rfl | hq
    · cases e : bd.B q with
      | none => rfl
      | some x =>
        have e2 := g.same _ _ e
        rw [hn] at e2
        cases e2
    · exact g.fresh q hq
  · rcases List.mem_cons.mp hq with rfl | hq
    · exact ⟨u, upd_same, hu.mono (Ext.of_same ex)⟩
    · obtain ⟨x, e, k⟩ := g.objs q hq
      exact ⟨x, sm _ _ e, k.mono (Ext.of_same ex)⟩
/-- .. that stands still from the start -/
theorem Good.newD (g : Good K bd σ H E) {u : HO} (hn : H p = none) : Good K bd σ (upd H p u) E ∧ Same (stab bd.Oc H E.O) (stab bd.Oc (upd H p u) E.O) ∧ stab bd.Oc (upd H p u) E.O p = some u := by
  have sm : Same H (upd H p u) := fun b x e => by rw [upd_ne (ne_of_none e hn)]; exact e
  refine ⟨g.grow sm, hide_mono sm, ?_⟩
  have m : p ∉ bd.Oc ++ own E.O := fun h => by
    rcases List.mem_append.mp h with h | h
    · obtain ⟨x, e⟩ := g.ocB p h
      have e2 := g.same _ _ e
      rw [hn] at e2
      cases e2
    · obtain ⟨q, hq, rfl⟩ := List.mem_map.mp h
      obtain ⟨x, e, _⟩ := g.objs q hq
      rw [hn] at e
      cases e
  show hide (bd.Oc ++ own E.O) (upd H p u) p = some u
  rw [hide_out m, upd_same]
/-- another ground of data -/
theorem Good.relow (g : Good K bd σ H E) {S' : Hp} (h : Ext S' (stab bd.Oc H E.O)) : Good K ⟨bd.Oc, bd.B, S'⟩ σ H E := ⟨g.ocB, g.same, h, g.fresh, g.nd, g.slots, g.objs⟩
theorem own_set (O : List OE) (j : Nat) (h : ∃ o', O[j]? = some (p, o')) : own (O.set j (p, o)) = own O := by
  obtain ⟨o', h⟩ := h
  show (O.set j (p, o)).map (·.1) = O.map (·.1)
  rw [List.map_set]
  refine List.ext_getElem? fun i => ?_
  by_cases e : j = i
  · subst e
    rw [List.getElem?_map, h]
    obtain ⟨hl, _⟩ := List.getElem?_eq_some_iff.mp h
    rw [List.getElem?_set_self (by rw [List.length_map]; exact hl)]
    rfl
  · rw [List.getElem?_set_ne e]
/-- an object of ours is changed -/
theorem Good.put (g : Good K bd σ H ⟨G, O⟩) {j : Nat} {o' : OO} {u : HO} (hj : O[j]? = some (p, o')) (hu : OOok K (stab bd.Oc H O) o u) :
    Good K bd σ (upd H p u) ⟨G, O.set j (p, o)⟩ ∧ stab bd.Oc (upd H p u) (O.set j (p, o)) = stab bd.Oc H O := by
  have hp : p ∈ own O := List.mem_map.mpr ⟨(p, o'), List.mem_of_getElem? hj, rfl⟩
  have eo : own (O.set j (p, o)) = own O := own_set O j ⟨o', hj⟩
  have es : stab bd.Oc (upd H p u) (O.set j (p, o)) = stab bd.Oc H O := by
    show hide (bd.Oc ++ own (O.set j (p, o))) (upd H p u) = hide (bd.Oc ++ own O) H
    rw [eo, hide_upd (List.mem_append_right _ hp)]
  refine ⟨⟨g.ocB, fun b x e => ?_, by rw [es]; exact g.low, fun q hq => g.fresh q (eo ▸ hq), by rw [eo]; exact g.nd, by rw [es]; exact g.slots, fun q hq => ?_⟩, es⟩
  · rw [upd_ne fun z => ?_]
    · exact g.same _ _ e
    · subst z
      rw [g.fresh b hp] at e
      cases e
  · rw [es]
    obtain ⟨i, hi, e⟩ := List.mem_iff_getElem.mp hq
    by_cases hij : j = i
    · subst hij
      rw [List.getElem_set_self] at e
      subst e
      exact ⟨u, upd_same, hu⟩
    · rw [List.getElem_set_ne hij] at e
      have hi' : i < O.length := by rw [List.length_set] at hi; exact hi
      have hq' : q ∈ O := e ▸ List.getElem_mem hi'
      have ne : q.1 ≠ p := fun z => by
        obtain ⟨hj1, hj2⟩ := List.getElem?_eq_some_iff.mp hj
        have nd := g.nd
        have e1 : (own O)[i]? = some p := by
          show (O.map (·.1))[i]? = some p
          rw [List.getElem?_map, List.getElem?_eq_getElem hi', e]
          show some q.1 = some p
          rw [z]
        have e2 : (own O)[j]? = some p := by
          show (O.map (·.1))[j]? = some p
          rw [List.getElem?_map, hj]
          rfl
        obtain ⟨hi1, e3⟩ := List.getElem?_eq_some_iff.mp e1
        obtain ⟨hj3, e4⟩ := List.getElem?_eq_some_iff.mp e2
        exact hij ((List.getElem_inj nd).mp (e4.trans e3.symm))
      obtain ⟨x, e1, k⟩ := g.objs q hq'
      exact ⟨x, by rw [upd_ne ne]; exact e1, k⟩
theorem Good.obj (g : Good K bd σ H ⟨G, O⟩) {j : Nat} (hj : O[j]? = some (p, o)) : ∃ u, H p = some u ∧ OOok K (stab bd.Oc H O) o u := g.objs (p, o) (List.mem_of_getElem? hj)
/-- an owned object is let go -/
theorem Good.drop (g : Good K bd σ H ⟨G, O⟩) (hs : List.Sublist O' O) : Good K bd σ H ⟨G, O'⟩ ∧ Same (stab bd.Oc H O) (stab bd.Oc H O') := by
  have hm : ∀ a, a ∈ own O' → a ∈ own O := fun a h => (hs.map _).subset h
  have ex : Same (stab bd.Oc H O) (stab bd.Oc H O') := hide_sub fun a h => by
    rcases List.mem_append.mp h with h | h
    · exact List.mem_append_left _ h
    · exact List.mem_append_right _ (hm a h)
  exact ⟨⟨g.ocB, g.same, g.low.trans (Ext.of_same ex), fun q hq => g.fresh q (hm q hq), (hs.map _).nodup g.nd, g.slots.mono (Ext.of_same ex), fun q hq => by
    obtain ⟨x, e, k⟩ := g.objs q (hs.subset hq)
    exact ⟨x, e, k.mono (Ext.of_same ex)⟩⟩, ex⟩
/-- in another order -/
theorem Good.perm (g : Good K bd σ H ⟨G, O⟩) (h : O.Perm O') : Good K bd σ H ⟨G, O'⟩ ∧ stab bd.Oc H O = stab bd.Oc H O' := by
  have hm : (own O).Perm (own O') := h.map _
  have es : stab bd.Oc H O = stab bd.Oc H O' := hide_congr fun a => by
    rw [List.mem_append, List.mem_append, hm.mem_iff]
  exact ⟨⟨g.ocB, g.same, by rw [← es]; exact g.low, fun q hq => g.fresh q (hm.mem_iff.mpr hq), hm.nodup_iff.mp g.nd, by rw [← es]; exact g.slots, fun q hq => by
    rw [← es]
    exact g.objs q (h.mem_iff.mpr hq)⟩, es⟩
end
end Lx

/-! Lx, part C: what an expression, a test, an argument list evaluates to; statements; calls. -/
namespace Lx
open PySem PySem.Spec PyProof.Rows L2

/-! ### the weakest readings -/
def tE (X : Cx) (e : Expr) : TE := fun σ H Q => ∀ (pins : List (Addr × Obj)) (s : Shared), Inv X pins σ H s → wpAny (model X.prog X.w) X.A (eval e X.env) (EP X pins σ Q) X.xe s
def tT (X : Cx) (e : Expr) : TT := fun σ H Q => ∀ (pins : List (Addr × Obj)) (s : Shared), Inv X pins σ H s → wpAny (model X.prog X.w) X.A (isTrue e X.env (eval e X.env)) (TP X pins σ Q) X.xe s
def tA (X : Cx) (es : List Expr) : TA := fun σ H Q => ∀ (pos : Pos) (pins : List (Addr × Obj)) (s : Shared), Inv X pins σ H s → wpAny (model X.prog X.w) X.A (spliced (backTo pos (starEach es X.env))) (AP X pins σ Q) X.xe s
def tS (X : Cx) (st : Stmt) : TS := fun D σ H => ∀ (pins : List (Addr × Obj)) (s : Shared), Inv X pins σ H s → wpAny (model X.prog X.w) X.A (exec st X.env) (SP X pins D) X.xe s
def tSs (X : Cx) (st : List Stmt) : TS := fun D σ H => ∀ (pins : List (Addr × Obj)) (s : Shared), Inv X pins σ H s → wpAny (model X.prog X.w) X.A (execs st X.env) (SP X pins D) X.xe s
section
variable {X : Cx} {e : Expr} {es : List Expr} {st : Stmt} {sts : List Stmt}
theorem peE : PE X e (tE X e) := ⟨fun pins s _ _ _ I h => h pins s I⟩
theorem ptT : PT X e (tT X e) := ⟨fun pins s _ _ _ I h => h pins s I⟩
theorem paA : PA X es (tA X es) := ⟨fun pos pins s _ _ _ I h => h pos pins s I⟩
theorem psS : PS X st (tS X st) := ⟨fun pins s _ _ _ I h => h pins s I⟩
theorem pssS : PSs X sts (tSs X sts) := ⟨fun pins s _ _ _ I h => h pins s I⟩
theorem toE {t : TE} (p : PE X e t) {σ : L2.St} {H : Hp} {Q : VK} (h : t σ H Q) : tE X e σ H Q := fun pins s I => p.run pins s σ H Q I h
theorem toT {t : TT} (p : PT X e t) {σ : L2.St} {H : Hp} {Q : Bool → Hp → Prop} (h : t σ H Q) : tT X e σ H Q := fun pins s I => p.run pins s σ H Q I h
theorem toA {t : TA} (p : PA X es t) {σ : L2.St} {H : Hp} {Q : List V → Hp → Prop} (h : t σ H Q) : tA X es σ H Q := fun pos pins s I => p.run pos pins s σ H Q I h
theorem toS {t : TS} (p : PS X st t) {σ : L2.St} {H : Hp} {D : Ends} (h : t D σ H) : tS X st D σ H := fun pins s I => p.run pins s σ H D I h
theorem toSs {t : TS} (p : PSs X sts t) {σ : L2.St} {H : Hp} {D : Ends} (h : t D σ H) : tSs X sts D σ H := fun pins s I => p.run pins s σ H D I h
end

/-! ### what evaluates to what -/
/-- e gives an r and leaves the owned things O', of which P holds -/
def EW (X : Cx) (e : Expr) (E : Env) (P : En → List OE → Prop) : Prop := ∀ bd σ H, Good X.K bd σ H E → ∀ Q : VK,
  (∀ v H' r O', P r O' → Good X.K bd σ H' ⟨E.G, O'⟩ → Ext (stab bd.Oc H E.O) (stab bd.Oc H' O') → EnOk X.K (stab bd.Oc H' O') r v → Q v H') → tE X e σ H Q
/-- .. just this -/
def EV (X : Cx) (e : Expr) (E : Env) (r : En) (O' : List OE) : Prop := EW X e E fun r' O'' => r' = r ∧ O'' = O'
/-- .. a new object of ours -/
def EN (X : Cx) (e : Expr) (E : Env) (o : OO) (O' : List OE) : Prop := EW X e E fun r' O'' => ∃ p, r' = .raw (.ref p) ∧ O'' = (p, o) :: O'
def ET (X : Cx) (e : Expr) (E : Env) (b : Bool) (O' : List OE) : Prop := ∀ bd σ H, Good X.K bd σ H E → ∀ Q : Bool → Hp → Prop,
  (∀ H', Good X.K bd σ H' ⟨E.G, O'⟩ → Ext (stab bd.Oc H E.O) (stab bd.Oc H' O') → Q b H') → tT X e σ H Q
def EA (X : Cx) (es : List Expr) (E : Env) (rs : List En) (O' : List OE) : Prop := ∀ bd σ H, Good X.K bd σ H E → ∀ Q : List V → Hp → Prop,
  (∀ vs H', Good X.K bd σ H' ⟨E.G, O'⟩ → Ext (stab bd.Oc H E.O) (stab bd.Oc H' O') → EnsOk X.K (stab bd.Oc H' O') rs vs → Q vs H') → tA X es σ H Q
theorem EV.use {X : Cx} {e : Expr} {G : List (Option En)} {O : List OE} {r : En} {O' : List OE} (h : EV X e ⟨G, O⟩ r O') {bd : Bd} {H : Hp} {σ : L2.St} (g : Good X.K bd σ H ⟨G, O⟩) {Q : VK}
    (k : ∀ v H', Good X.K bd σ H' ⟨G, O'⟩ → Ext (stab bd.Oc H O) (stab bd.Oc H' O') → EnOk X.K (stab bd.Oc H' O') r v → Q v H') : tE X e σ H Q :=
  h bd σ H g Q fun v H' r' O'' ⟨e1, e2⟩ g' x ok => by
    subst e1 e2
    exact k v H' g' x ok
theorem EV.mk {X : Cx} {e : Expr} {G : List (Option En)} {O : List OE} {r : En} {O' : List OE} (h : ∀ bd σ H, Good X.K bd σ H ⟨G, O⟩ → ∀ Q : VK,
    (∀ v H', Good X.K bd σ H' ⟨G, O'⟩ → Ext (stab bd.Oc H O) (stab bd.Oc H' O') → EnOk X.K (stab bd.Oc H' O') r v → Q v H') → tE X e σ H Q) : EV X e ⟨G, O⟩ r O' :=
  fun bd σ H g Q k => h bd σ H g Q fun v H' g' x ok => k v H' r O' ⟨rfl, rfl⟩ g' x ok
theorem EN.mk {X : Cx} {e : Expr} {G : List (Option En)} {O : List OE} {o : OO} {O' : List OE} (h : ∀ bd σ H, Good X.K bd σ H ⟨G, O⟩ → ∀ Q : VK,
    (∀ p H', Good X.K bd σ H' ⟨G, (p, o) :: O'⟩ → Ext (stab bd.Oc H O) (stab bd.Oc H' ((p, o) :: O')) → Q (.ref p) H') → tE X e σ H Q) : EN X e ⟨G, O⟩ o O' :=
  fun bd σ H g Q k => h bd σ H g Q fun p H' g' x => k (.ref p) H' (.raw (.ref p)) ((p, o) :: O') ⟨p, rfl, rfl⟩ g' x rfl
theorem EW.imp {X : Cx} {e : Expr} {G : List (Option En)} {O : List OE} {P P' : En → List OE → Prop} (h : EW X e ⟨G, O⟩ P) (k : ∀ r O', P r O' → P' r O') : EW X e ⟨G, O⟩ P' :=
  fun bd σ H g Q q => h bd σ H g Q fun v H' r O' p => q v H' r O' (k r O' p)
theorem EV.cast {X : Cx} {e : Expr} {G : List (Option En)} {O : List OE} {r r' : En} {O' O'' : List OE} (h : EV X e ⟨G, O⟩ r O') (e1 : r = r') (e2 : O' = O'') : EV X e ⟨G, O⟩ r' O'' := by
  subst e1 e2
  exact h
theorem EV.to {X : Cx} {e : Expr} {G : List (Option En)} {O : List OE} {r r' : En} {O' : List OE} (h : EV X e ⟨G, O⟩ r O') (e1 : r = r') : EV X e ⟨G, O⟩ r' O' := by
  subst e1
  exact h
theorem ET.to {X : Cx} {e : Expr} {G : List (Option En)} {O : List OE} {b b' : Bool} {O' : List OE} (h : ET X e ⟨G, O⟩ b O') (e1 : b = b') : ET X e ⟨G, O⟩ b' O' := by
  subst e1
  exact h
def unD : List En → Option (List D)
  | [] => some []
  | .d x :: r => (unD r).map (x :: ·)
  | .raw _ :: _ => none
theorem unD_eq : ∀ {rs : List En} {ds : List D}, unD rs = some ds → rs = ds.map .d
  | [], ds, h => by
    cases h
    rfl
  | .d x :: r, ds, h => by
    have h2 : (unD r).map (x :: ·) = some ds := h
    cases e : unD r with
    | none => rw [e] at h2; cases h2
    | some t =>
      rw [e] at h2
      have e2 : x :: t = ds := Option.some.inj h2
      subst e2
      rw [unD_eq e] <;> rfl
  | .raw _ :: _, _, h => by cases h
/-- a new list stands still from now on -/
theorem Good.pubLst {K : PySem.W.Frag} {bd : Bd} {H : Hp} {σ : L2.St} {G : List (Option En)} {O : List OE} {p : Addr} {ds : List D} (g : Good K bd σ H ⟨G, (p, .lst (ds.map .d)) :: O⟩) :
    Good K bd σ H ⟨G, O⟩ ∧ Ext (stab bd.Oc H ((p, .lst (ds.map .d)) :: O)) (stab bd.Oc H O) ∧ Rep K (stab bd.Oc H O) (.lst ds) (.ref p) := by
  obtain ⟨g2, sm⟩ := g.drop (O' := O) (List.sublist_cons_self _ _)
  refine ⟨g2, Ext.of_same sm, ?_⟩
  obtain ⟨u, e, vs, rfl, ok⟩ := g.obj (j := 0) rfl
  have m : p ∉ bd.Oc ++ own O := fun h => by
    rcases List.mem_append.mp h with h | h
    · exact g.dis p List.mem_cons_self h
    · exact (List.nodup_cons.mp g.nd).1 h
  exact ⟨p, vs, rfl, (hide_out m).trans e, (ok.mono (Ext.of_same sm)).reps⟩
theorem Good.pubIns {K : PySem.W.Frag} {bd : Bd} {H : Hp} {σ : L2.St} {G : List (Option En)} {O : List OE} {p C : Addr} {ds : List (Str × D)} (g : Good K bd σ H ⟨G, (p, .ins C (ds.map fun q => (q.1, En.d q.2))) :: O⟩) :
    Good K bd σ H ⟨G, O⟩ ∧ Ext (stab bd.Oc H ((p, .ins C (ds.map fun q => (q.1, En.d q.2))) :: O)) (stab bd.Oc H O) ∧ Rep K (stab bd.Oc H O) (.ins C ds) (.ref p) := by
  obtain ⟨g2, sm⟩ := g.drop (O' := O) (List.sublist_cons_self _ _)
  refine ⟨g2, Ext.of_same sm, ?_⟩
  obtain ⟨u, e, dx, vs, rfl, ok⟩ := g.obj (j := 0) rfl
  have m : p ∉ bd.Oc ++ own O := fun h => by
    rcases List.mem_append.mp h with h | h
    · exact g.dis p List.mem_cons_self h
    · exact (List.nodup_cons.mp g.nd).1 h
  exact ⟨p, dx, vs, rfl, (hide_out m).trans e, (ok.mono (Ext.of_same sm)).repF⟩
theorem Good.pubK {K : PySem.W.Frag} {bd : Bd} {H : Hp} {σ : L2.St} {G : List (Option En)} {O : List OE} {p : Addr} {ds : List (Key × D)} (g : Good K bd σ H ⟨G, (p, .dK (ds.map fun q => (q.1, En.d q.2))) :: O⟩) :
    Good K bd σ H ⟨G, O⟩ ∧ Ext (stab bd.Oc H ((p, .dK (ds.map fun q => (q.1, En.d q.2))) :: O)) (stab bd.Oc H O) ∧ Rep K (stab bd.Oc H O) (.dK ds) (.ref p) := by
  obtain ⟨g2, sm⟩ := g.drop (O' := O) (List.sublist_cons_self _ _)
  refine ⟨g2, Ext.of_same sm, ?_⟩
  obtain ⟨u, e, vs, rfl, ok⟩ := g.obj (j := 0) rfl
  have m : p ∉ bd.Oc ++ own O := fun h => by
    rcases List.mem_append.mp h with h | h
    · exact g.dis p List.mem_cons_self h
    · exact (List.nodup_cons.mp g.nd).1 h
  exact ⟨p, vs, rfl, .inl ((hide_out m).trans e), (ok.mono (Ext.of_same sm)).repK⟩
section
variable {X : Cx} {e : Expr} {G : List (Option En)} {O : List OE} {O' : List OE}
theorem EN.lst {ds : List D} (h : EN X e ⟨G, O⟩ (.lst (ds.map .d)) O') : EV X e ⟨G, O⟩ (.d (.lst ds)) O' := EV.mk fun bd σ H g Q k => h bd σ H g Q fun v H' r O'' ⟨p, e1, e2⟩ g' x ok => by
  subst e1 e2
  have ok' : v = .ref p := ok
  subst ok'
  obtain ⟨g2, x2, rp⟩ := g'.pubLst
  exact k _ H' g2 (x.trans x2) rp
theorem EN.lstU {rs : List En} {ds : List D} (h : EN X e ⟨G, O⟩ (.lst rs) O') (hu : unD rs = some ds := by rfl) : EV X e ⟨G, O⟩ (.d (.lst ds)) O' := EN.lst (by rw [← unD_eq hu]; exact h)
theorem EN.ins {C : Addr} {ds : List (Str × D)} (h : EN X e ⟨G, O⟩ (.ins C (ds.map fun q => (q.1, En.d q.2))) O') : EV X e ⟨G, O⟩ (.d (.ins C ds)) O' := EV.mk fun bd σ H g Q k => h bd σ H g Q fun v H' r O'' ⟨p, e1, e2⟩ g' x ok => by
  subst e1 e2
  have ok' : v = .ref p := ok
  subst ok'
  obtain ⟨g2, x2, rp⟩ := g'.pubIns
  exact k _ H' g2 (x.trans x2) rp
theorem EN.dK {ds : List (Key × D)} (h : EN X e ⟨G, O⟩ (.dK (ds.map fun q => (q.1, En.d q.2))) O') : EV X e ⟨G, O⟩ (.d (.dK ds)) O' := EV.mk fun bd σ H g Q k => h bd σ H g Q fun v H' r O'' ⟨p, e1, e2⟩ g' x ok => by
  subst e1 e2
  have ok' : v = .ref p := ok
  subst ok'
  obtain ⟨g2, x2, rp⟩ := g'.pubK
  exact k _ H' g2 (x.trans x2) rp
end

/-! ### names, constants -/
section
variable {X : Cx} {G : List (Option En)} {O O1 O2 O' : List OE} {x y z r : En} {pos : Pos} {a b : Expr} 
theorem ev_name {x : Str} (i : Nat) {r : En} (hG : G[i]? = some (some r) := by rfl) (hN : X.N[i]? = some x := by rfl) (hv : Vis X.env.scope x := by first | exact Or.inl rfl | exact Or.inr (Or.inl rfl) | exact Or.inr (Or.inr rfl))
    (hd : (x == ("__debug__" : Str)) = false := by decide) (hcd : (x == ("__classdict__" : Str)) = false := by decide) : EV X (.Name x pos) ⟨G, O⟩ r O :=
  EV.mk fun bd σ H g Q k => by
    obtain ⟨u, e1, ok⟩ := g.slot hG
    exact toE (pe_var hN hv hd hcd) ⟨u, e1, k u H g (Ext.refl _) ok⟩
theorem ev_int {i : Int} {j : Nat} : EV X (.Constant (.int i) j pos) ⟨G, O⟩ (.d (.int i)) O := EV.mk fun bd σ H g Q k => toE pe_int (k _ H g (Ext.refl _) rfl)
theorem ev_bl {i : Bool} {j : Nat} : EV X (.Constant (.bool i) j pos) ⟨G, O⟩ (.d (.bl i)) O := EV.mk fun bd σ H g Q k => toE pe_bl (k _ H g (Ext.refl _) rfl)
theorem ev_non {j : Nat} : EV X (.Constant .none j pos) ⟨G, O⟩ (.d .non) O := EV.mk fun bd σ H g Q k => toE pe_non (k _ H g (Ext.refl _) rfl)
theorem ev_str {i : Str} {j : Nat} : EV X (.Constant (.str i) j pos) ⟨G, O⟩ (.d (.str i)) O := EV.mk fun bd σ H g Q k => toE pe_str (k _ H g (Ext.refl _) rfl)
theorem ev_glob {x : Str} {u : Value} {d : D} (hm : X.mg x = some u) (hr : ∀ S, ∃ v, RelV v u ∧ Rep X.K S d v) (hg : Gl X x := by rfl) (hd : (x == ("__debug__" : Str)) = false := by decide) : EV X (.Name x pos) ⟨G, O⟩ (.d d) O :=
  EV.mk fun bd σ H g Q k => by
    obtain ⟨v, r1, r2⟩ := hr (stab bd.Oc H O)
    exact toE (pe_glob hg hm r1 hd) (k v H g (Ext.refl _) r2)

/-! ### operators -/
/-- an operator upon values that leaves the heap as it is -/
def OV (K : PySem.W.Frag) (r : R2) (O : List OE) (x y z : En) : Prop := ∀ bd σ H G v w, Good K bd σ H ⟨G, O⟩ → EnOk K (stab bd.Oc H O) x v → EnOk K (stab bd.Oc H O) y w → ∀ Q : VK, (∀ u, EnOk K (stab bd.Oc H O) z u → Q u H) → r v w H Q
/-- an operator that makes a new list -/
def ON (K : PySem.W.Frag) (r : R2) (O : List OE) (x y : En) (xs : List En) : Prop := ∀ bd σ H G v w, Good K bd σ H ⟨G, O⟩ → EnOk K (stab bd.Oc H O) x v → EnOk K (stab bd.Oc H O) y w → ∀ Q : VK,
  (∀ vs, EnsOk K (stab bd.Oc H O) xs vs → ∀ p, H p = none → Q (.ref p) (upd H p (.lst vs))) → r v w H Q
theorem ev_bin {e : Expr} {rr : R2} (pe : PE X e (tOp rr (tE X a) (tE X b))) (ha : EV X a ⟨G, O⟩ x O1) (hb : EV X b ⟨G, O1⟩ y O2) (hr : OV X.K rr O2 x y z) : EV X e ⟨G, O⟩ z O2 :=
  EV.mk fun bd σ H g Q k => toE pe (ha.use g fun v H1 g1 x1 ok1 => hb.use g1 fun w H2 g2 x2 ok2 => hr bd σ H2 G v w g2 (ok1.mono x2) ok2 Q fun u ok => k u H2 g2 (x1.trans x2) ok)
theorem ev_op {op : Operator} {rr : R2} (ho : OpR X (binaryOp op) rr) (ha : EV X a ⟨G, O⟩ x O1) (hb : EV X b ⟨G, O1⟩ y O2) (hr : OV X.K rr O2 x y z) : EV X (.BinOp a op b pos) ⟨G, O⟩ z O2 := ev_bin (pe_op ho peE peE) ha hb hr
theorem ev_cmp {op : CmpOp} {rr : R2} (ho : OpR X (compareOp op) rr) (ha : EV X a ⟨G, O⟩ x O1) (hb : EV X b ⟨G, O1⟩ y O2) (hr : OV X.K rr O2 x y z) (hm : behindInMarks op b = false) : EV X (.Compare a [op] [b] pos) ⟨G, O⟩ z O2 := ev_bin (pe_cmpR ho peE peE hm) ha hb hr
theorem et_cmp {op : CmpOp} {rr : R2} {c : Bool} (ho : OpR X (compareOp op) rr) (ha : EV X a ⟨G, O⟩ x O1) (hb : EV X b ⟨G, O1⟩ y O2) (hr : OV X.K rr O2 x y (.d (.bl c))) (hm : behindInMarks op b = false) : ET X (.Compare a [op] [b] pos) ⟨G, O⟩ c O2 :=
  fun bd σ H g Q k => toT (pt_cmpR ho peE peE hm) (ha.use g fun v H1 g1 x1 ok1 => hb.use g1 fun w H2 g2 x2 ok2 => hr bd σ H2 G v w g2 (ok1.mono x2) ok2 _ fun u ok => ⟨c, ok, k H2 g2 (x1.trans x2)⟩)
theorem en_bin {e : Expr} {rr : R2} {xs : List En} (pe : PE X e (tOp rr (tE X a) (tE X b))) (ha : EV X a ⟨G, O⟩ x O1) (hb : EV X b ⟨G, O1⟩ y O2) (hr : ON X.K rr O2 x y xs) : EN X e ⟨G, O⟩ (.lst xs) O2 :=
  EN.mk fun bd σ H g Q k => toE pe (ha.use g fun v H1 g1 x1 ok1 => hb.use g1 fun w H2 g2 x2 ok2 => hr bd σ H2 G v w g2 (ok1.mono x2) ok2 Q fun vs ok p hp => by
    obtain ⟨g3, x3⟩ := g2.new (o := .lst xs) hp ⟨vs, rfl, ok⟩
    exact k p _ g3 ((x1.trans x2).trans x3))
theorem ov_I0 {K : PySem.W.Frag} {g : Int → Int → V} {i j : Int} {z : D} (h : ∀ S, Rep K S z (g i j)) : OV K (rI0 g) O (.d (.int i)) (.d (.int j)) (.d z) := fun bd σ H G v w _ e1 e2 Q k => ⟨i, j, e1, e2, k _ (h _)⟩
theorem ov_I {K : PySem.W.Frag} {C : Int → Int → Prop} {g : Int → Int → V} {i j : Int} {z : D} (hc : C i j) (h : ∀ S, Rep K S z (g i j)) : OV K (rI C g) O (.d (.int i)) (.d (.int j)) (.d z) := fun bd σ H G v w _ e1 e2 Q k => ⟨i, j, e1, e2, hc, k _ (h _)⟩
theorem ev_add {i j : Int} (ha : EV X a ⟨G, O⟩ (.d (.int i)) O1) (hb : EV X b ⟨G, O1⟩ (.d (.int j)) O2) : EV X (.BinOp a .Add b pos) ⟨G, O⟩ (.d (.int (i + j))) O2 := ev_op op_add ha hb (ov_I0 fun _ => rfl)
theorem ev_sub {i j : Int} (ha : EV X a ⟨G, O⟩ (.d (.int i)) O1) (hb : EV X b ⟨G, O1⟩ (.d (.int j)) O2) : EV X (.BinOp a .Sub b pos) ⟨G, O⟩ (.d (.int (i - j))) O2 := ev_op op_sub ha hb (ov_I0 fun _ => rfl)
theorem ev_mul {i j : Int} (ha : EV X a ⟨G, O⟩ (.d (.int i)) O1) (hb : EV X b ⟨G, O1⟩ (.d (.int j)) O2) (hc : CMul i j) : EV X (.BinOp a .Mult b pos) ⟨G, O⟩ (.d (.int (i * j))) O2 := ev_op op_mul ha hb (ov_I hc fun _ => rfl)
theorem ev_mod {i j : Int} (ha : EV X a ⟨G, O⟩ (.d (.int i)) O1) (hb : EV X b ⟨G, O1⟩ (.d (.int j)) O2) (hc : 0 < j) : EV X (.BinOp a .Mod b pos) ⟨G, O⟩ (.d (.int (i % j))) O2 := ev_op op_mod ha hb (ov_I hc fun _ => rfl)
theorem ev_fdiv {i j : Int} (ha : EV X a ⟨G, O⟩ (.d (.int i)) O1) (hb : EV X b ⟨G, O1⟩ (.d (.int j)) O2) (hc : CDiv i j) : EV X (.BinOp a .FloorDiv b pos) ⟨G, O⟩ (.d (.int (i / j))) O2 := ev_op op_fdiv ha hb (ov_I hc fun _ => rfl)
theorem ev_pow {i j : Int} (ha : EV X a ⟨G, O⟩ (.d (.int i)) O1) (hb : EV X b ⟨G, O1⟩ (.d (.int j)) O2) (hc : CPow i j) : EV X (.BinOp a .Pow b pos) ⟨G, O⟩ (.d (.int (i ^ j.toNat))) O2 := ev_op op_pow ha hb (ov_I hc fun _ => rfl)
theorem ev_neg {i : Int} (ha : EV X a ⟨G, O⟩ (.d (.int i)) O1) : EV X (.UnaryOp .USub a pos) ⟨G, O⟩ (.d (.int (-i))) O1 :=
  EV.mk fun bd σ H g Q k => toE (pe_un un_neg peE) (ha.use g fun v H1 g1 x1 ok1 => ⟨i, ok1, k _ H1 g1 x1 rfl⟩)
theorem ev_lt {i j : Int} (ha : EV X a ⟨G, O⟩ (.d (.int i)) O1) (hb : EV X b ⟨G, O1⟩ (.d (.int j)) O2) : EV X (.Compare a [.Lt] [b] pos) ⟨G, O⟩ (.d (.bl (decide (i < j)))) O2 := ev_cmp op_lt ha hb (ov_I0 fun _ => rfl) (nomark _)
theorem et_lt {i j : Int} (ha : EV X a ⟨G, O⟩ (.d (.int i)) O1) (hb : EV X b ⟨G, O1⟩ (.d (.int j)) O2) : ET X (.Compare a [.Lt] [b] pos) ⟨G, O⟩ (decide (i < j)) O2 := et_cmp op_lt ha hb (ov_I0 fun _ => rfl) (nomark _)
theorem et_le {i j : Int} (ha : EV X a ⟨G, O⟩ (.d (.int i)) O1) (hb : EV X b ⟨G, O1⟩ (.d (.int j)) O2) : ET X (.Compare a [.LtE] [b] pos) ⟨G, O⟩ (decide (i ≤ j)) O2 := et_cmp op_le ha hb (ov_I0 fun _ => rfl) (nomark _)
theorem et_gt {i j : Int} (ha : EV X a ⟨G, O⟩ (.d (.int i)) O1) (hb : EV X b ⟨G, O1⟩ (.d (.int j)) O2) : ET X (.Compare a [.Gt] [b] pos) ⟨G, O⟩ (decide (j < i)) O2 := et_cmp op_gt ha hb (ov_I0 fun _ => rfl) (nomark _)
theorem et_ge {i j : Int} (ha : EV X a ⟨G, O⟩ (.d (.int i)) O1) (hb : EV X b ⟨G, O1⟩ (.d (.int j)) O2) : ET X (.Compare a [.GtE] [b] pos) ⟨G, O⟩ (decide (j ≤ i)) O2 := et_cmp op_ge ha hb (ov_I0 fun _ => rfl) (nomark _)
theorem ev_le {i j : Int} (ha : EV X a ⟨G, O⟩ (.d (.int i)) O1) (hb : EV X b ⟨G, O1⟩ (.d (.int j)) O2) : EV X (.Compare a [.LtE] [b] pos) ⟨G, O⟩ (.d (.bl (decide (i ≤ j)))) O2 := ev_cmp op_le ha hb (ov_I0 fun _ => rfl) (nomark _)
theorem ev_gt {i j : Int} (ha : EV X a ⟨G, O⟩ (.d (.int i)) O1) (hb : EV X b ⟨G, O1⟩ (.d (.int j)) O2) : EV X (.Compare a [.Gt] [b] pos) ⟨G, O⟩ (.d (.bl (decide (j < i)))) O2 := ev_cmp op_gt ha hb (ov_I0 fun _ => rfl) (nomark _)
theorem ev_ge {i j : Int} (ha : EV X a ⟨G, O⟩ (.d (.int i)) O1) (hb : EV X b ⟨G, O1⟩ (.d (.int j)) O2) : EV X (.Compare a [.GtE] [b] pos) ⟨G, O⟩ (.d (.bl (decide (j ≤ i)))) O2 := ev_cmp op_ge ha hb (ov_I0 fun _ => rfl) (nomark _)
/-- == of scalars -/
def scD : D → Option V
  | .non => some .non
  | .bl b => some (.bl b)
  | .int i => some (.int i)
  | .str x => some (.str x)
  | _ => none
theorem scD_rep {K : PySem.W.Frag} {S : Hp} {d : D} {w v : V} (h : scD d = some w) (r : Rep K S d v) : v = w := by
  cases d <;> first | (cases h; exact r) | cases h
theorem ov_eq {K : PySem.W.Frag} {d e : D} {v w : V} (h1 : scD d = some v) (h2 : scD e = some w) (h3 : scal v w = true) : OV K rEq O (.d d) (.d e) (.d (.bl (decide (v = w)))) := fun bd σ H G v' w' _ e1 e2 Q k => by
  have f1 := scD_rep h1 e1
  have f2 := scD_rep h2 e2
  subst f1 f2
  exact ⟨h3, k _ rfl⟩
theorem ov_ne {K : PySem.W.Frag} {d e : D} {v w : V} (h1 : scD d = some v) (h2 : scD e = some w) (h3 : scal v w = true) : OV K rNe O (.d d) (.d e) (.d (.bl (!decide (v = w)))) := fun bd σ H G v' w' _ e1 e2 Q k => by
  have f1 := scD_rep h1 e1
  have f2 := scD_rep h2 e2
  subst f1 f2
  exact ⟨h3, k _ rfl⟩
theorem dec_i {i j : Int} : decide (V.int i = V.int j) = decide (i = j) := by
  by_cases h : i = j
  · subst h; simp
  · rw [decide_eq_false h]; exact decide_eq_false fun q => h (V.int.inj q)
theorem dec_s {i j : Str} : decide (V.str i = V.str j) = decide (i = j) := by
  by_cases h : i = j
  · subst h; simp
  · rw [decide_eq_false h]; exact decide_eq_false fun q => h (V.str.inj q)
theorem et_eqI {i j : Int} (ha : EV X a ⟨G, O⟩ (.d (.int i)) O1) (hb : EV X b ⟨G, O1⟩ (.d (.int j)) O2) : ET X (.Compare a [.Eq] [b] pos) ⟨G, O⟩ (decide (i = j)) O2 := et_cmp op_eq ha hb (dec_i ▸ ov_eq rfl rfl rfl) (nomark _)
theorem ev_eqI {i j : Int} (ha : EV X a ⟨G, O⟩ (.d (.int i)) O1) (hb : EV X b ⟨G, O1⟩ (.d (.int j)) O2) : EV X (.Compare a [.Eq] [b] pos) ⟨G, O⟩ (.d (.bl (decide (i = j)))) O2 := ev_cmp op_eq ha hb (dec_i ▸ ov_eq rfl rfl rfl) (nomark _)
theorem et_neI {i j : Int} (ha : EV X a ⟨G, O⟩ (.d (.int i)) O1) (hb : EV X b ⟨G, O1⟩ (.d (.int j)) O2) : ET X (.Compare a [.NotEq] [b] pos) ⟨G, O⟩ (!decide (i = j)) O2 := et_cmp op_ne ha hb (dec_i ▸ ov_ne rfl rfl rfl) (nomark _)
theorem ev_neI {i j : Int} (ha : EV X a ⟨G, O⟩ (.d (.int i)) O1) (hb : EV X b ⟨G, O1⟩ (.d (.int j)) O2) : EV X (.Compare a [.NotEq] [b] pos) ⟨G, O⟩ (.d (.bl (!decide (i = j)))) O2 := ev_cmp op_ne ha hb (dec_i ▸ ov_ne rfl rfl rfl) (nomark _)
theorem et_eqS {i j : Str} (ha : EV X a ⟨G, O⟩ (.d (.str i)) O1) (hb : EV X b ⟨G, O1⟩ (.d (.str j)) O2) : ET X (.Compare a [.Eq] [b] pos) ⟨G, O⟩ (decide (i = j)) O2 := et_cmp op_eq ha hb (dec_s ▸ ov_eq rfl rfl rfl) (nomark _)
theorem ev_eqS {i j : Str} (ha : EV X a ⟨G, O⟩ (.d (.str i)) O1) (hb : EV X b ⟨G, O1⟩ (.d (.str j)) O2) : EV X (.Compare a [.Eq] [b] pos) ⟨G, O⟩ (.d (.bl (decide (i = j)))) O2 := ev_cmp op_eq ha hb (dec_s ▸ ov_eq rfl rfl rfl) (nomark _)
theorem et_neS {i j : Str} (ha : EV X a ⟨G, O⟩ (.d (.str i)) O1) (hb : EV X b ⟨G, O1⟩ (.d (.str j)) O2) : ET X (.Compare a [.NotEq] [b] pos) ⟨G, O⟩ (!decide (i = j)) O2 := et_cmp op_ne ha hb (dec_s ▸ ov_ne rfl rfl rfl) (nomark _)
theorem ev_neS {i j : Str} (ha : EV X a ⟨G, O⟩ (.d (.str i)) O1) (hb : EV X b ⟨G, O1⟩ (.d (.str j)) O2) : EV X (.Compare a [.NotEq] [b] pos) ⟨G, O⟩ (.d (.bl (!decide (i = j)))) O2 := ev_cmp op_ne ha hb (dec_s ▸ ov_ne rfl rfl rfl) (nomark _)
/-- is None -/
def isNon : D → Bool
  | .non => true
  | _ => false
theorem rep_non {K : PySem.W.Frag} {S : Hp} {d : D} {v : V} (r : Rep K S d v) : decide (v = .non) = isNon d := by
  cases d with
  | non => have e : v = .non := r; subst e; rfl
  | bl b => have e : v = .bl b := r; subst e; rfl
  | int b => have e : v = .int b := r; subst e; exact decide_eq_false fun q => nomatch q
  | str b => have e : v = .str b := r; subst e; exact decide_eq_false fun q => nomatch q
  | adr b => have e : v = .ref b := r; subst e; exact decide_eq_false fun q => nomatch q
  | ty b => have e : v = .ty b := r; subst e; exact decide_eq_false fun q => nomatch q
  | lst _ => obtain ⟨a, _, e, _⟩ := r; subst e; exact decide_eq_false fun q => nomatch q
  | tup _ => obtain ⟨a, _, e, _⟩ := r; subst e; exact decide_eq_false fun q => nomatch q
  | dK _ => obtain ⟨a, _, e, _⟩ := r; subst e; exact decide_eq_false fun q => nomatch q
  | dT _ => obtain ⟨a, _, e, _⟩ := r; subst e; exact decide_eq_false fun q => nomatch q
  | ins _ _ => obtain ⟨a, _, _, e, _⟩ := r; subst e; exact decide_eq_false fun q => nomatch q
  | tupS _ => obtain ⟨a, _, e, _⟩ := r; subst e; exact decide_eq_false fun q => nomatch q
  | lstF _ => obtain ⟨a, _, e, _⟩ := r; subst e; exact decide_eq_false fun q => nomatch q
theorem ov_isN {K : PySem.W.Frag} {d : D} : OV K (fun x y H Q => y = .non ∧ Q (.bl (decide (x = .non))) H) O (.d d) (.d .non) (.d (.bl (isNon d))) := fun bd σ H G v w _ e1 e2 Q k => ⟨e2, by rw [rep_non e1]; exact k _ rfl⟩
theorem ov_notN {K : PySem.W.Frag} {d : D} : OV K (fun x y H Q => y = .non ∧ Q (.bl (!decide (x = .non))) H) O (.d d) (.d .non) (.d (.bl (!isNon d))) := fun bd σ H G v w _ e1 e2 Q k => ⟨e2, by rw [rep_non e1]; exact k _ rfl⟩
theorem et_isN {d : D} (ha : EV X a ⟨G, O⟩ (.d d) O1) (hb : EV X b ⟨G, O1⟩ (.d .non) O2) : ET X (.Compare a [.Is] [b] pos) ⟨G, O⟩ (isNon d) O2 := et_cmp op_isN ha hb ov_isN (nomark _)
theorem ev_isN {d : D} (ha : EV X a ⟨G, O⟩ (.d d) O1) (hb : EV X b ⟨G, O1⟩ (.d .non) O2) : EV X (.Compare a [.Is] [b] pos) ⟨G, O⟩ (.d (.bl (isNon d))) O2 := ev_cmp op_isN ha hb ov_isN (nomark _)
theorem et_notN {d : D} (ha : EV X a ⟨G, O⟩ (.d d) O1) (hb : EV X b ⟨G, O1⟩ (.d .non) O2) : ET X (.Compare a [.IsNot] [b] pos) ⟨G, O⟩ (!isNon d) O2 := et_cmp op_notN ha hb ov_notN (nomark _)
theorem ev_notN {d : D} (ha : EV X a ⟨G, O⟩ (.d d) O1) (hb : EV X b ⟨G, O1⟩ (.d .non) O2) : EV X (.Compare a [.IsNot] [b] pos) ⟨G, O⟩ (.d (.bl (!isNon d))) O2 := ev_cmp op_notN ha hb ov_notN (nomark _)

/-! ### tests -/
theorem et_val {c : Bool} (ha : EV X a ⟨G, O⟩ (.d (.bl c)) O1) (he : ∀ whole, isTrue a X.env whole = (do let v ← whole; standAt a.pos; holding [v] (truthy v)) := by intro _; rfl) : ET X a ⟨G, O⟩ c O1 :=
  fun bd σ H g Q k => toT (pt_val peE he) (ha.use g fun v H1 g1 x1 ok1 => ⟨c, ok1, k H1 g1 x1⟩)
theorem et_not {c : Bool} (ha : ET X a ⟨G, O⟩ c O1) : ET X (.UnaryOp .Not a pos) ⟨G, O⟩ (!c) O1 := fun bd σ H g Q k => toT (pt_not ptT) (ha bd σ H g _ fun H1 g1 x1 => k H1 g1 x1)
theorem et_and {c d : Bool} (ha : ET X a ⟨G, O⟩ c O1) (hb : c = true → ET X b ⟨G, O1⟩ d O2) (h0 : c = false → O2 = O1) : ET X (.BoolOp .And [a, b] pos) ⟨G, O⟩ (c && d) O2 := fun bd σ H g Q k =>
  toT (PW.pt (pw_and ptT (pw_and1 ptT))) (ha bd σ H g _ fun H1 g1 x1 => by
    cases c with
    | true => exact iteT (hb rfl bd σ H1 g1 Q fun H2 g2 x2 => k H2 g2 (x1.trans x2))
    | false =>
      obtain rfl := h0 rfl
      exact iteF (k H1 g1 x1))
theorem et_or {c d : Bool} (ha : ET X a ⟨G, O⟩ c O1) (hb : c = false → ET X b ⟨G, O1⟩ d O2) (h0 : c = true → O2 = O1) : ET X (.BoolOp .Or [a, b] pos) ⟨G, O⟩ (c || d) O2 := fun bd σ H g Q k =>
  toT (PW.pt (pw_or ptT (pw_or1 ptT))) (ha bd σ H g _ fun H1 g1 x1 => by
    cases c with
    | false => exact iteF (hb rfl bd σ H1 g1 Q fun H2 g2 x2 => k H2 g2 (x1.trans x2))
    | true =>
      obtain rfl := h0 rfl
      exact iteT (k H1 g1 x1))
theorem et_and3 {c d f : Bool} {e : Expr} {O3 : List OE} (ha : ET X a ⟨G, O⟩ c O1) (hb : c = true → ET X b ⟨G, O1⟩ d O2) (hc : c = true → d = true → ET X e ⟨G, O2⟩ f O3) (h0 : c = false → O3 = O1) (h1 : d = false → O3 = O2) : ET X (.BoolOp .And [a, b, e] pos) ⟨G, O⟩ (c && d && f) O3 := fun bd σ H g Q k =>
  toT (PW.pt (pw_and ptT (pw_and ptT (pw_and1 ptT)))) (ha bd σ H g _ fun H1 g1 x1 => by
    cases c with
    | true => exact iteT (hb rfl bd σ H1 g1 _ fun H2 g2 x2 => by
        cases d with
        | true => exact iteT (hc rfl rfl bd σ H2 g2 Q fun H3 g3 x3 => k H3 g3 ((x1.trans x2).trans x3))
        | false =>
          obtain rfl := h1 rfl
          exact iteF (k H2 g2 (x1.trans x2)))
    | false =>
      obtain rfl := h0 rfl
      exact iteF (k H1 g1 x1))
theorem et_or3 {c d f : Bool} {e : Expr} {O3 : List OE} (ha : ET X a ⟨G, O⟩ c O1) (hb : c = false → ET X b ⟨G, O1⟩ d O2) (hc : c = false → d = false → ET X e ⟨G, O2⟩ f O3) (h0 : c = true → O3 = O1) (h1 : d = true → O3 = O2) : ET X (.BoolOp .Or [a, b, e] pos) ⟨G, O⟩ (c || d || f) O3 := fun bd σ H g Q k =>
  toT (PW.pt (pw_or ptT (pw_or ptT (pw_or1 ptT)))) (ha bd σ H g _ fun H1 g1 x1 => by
    cases c with
    | false => exact iteF (hb rfl bd σ H1 g1 _ fun H2 g2 x2 => by
        cases d with
        | false => exact iteF (hc rfl rfl bd σ H2 g2 Q fun H3 g3 x3 => k H3 g3 ((x1.trans x2).trans x3))
        | true =>
          obtain rfl := h1 rfl
          exact iteT (k H2 g2 (x1.trans x2)))
    | true =>
      obtain rfl := h0 rfl
      exact iteT (k H1 g1 x1))
/-- the same of values -/
theorem ev_and {c : Bool} {d : Bool} (ha : EV X a ⟨G, O⟩ (.d (.bl c)) O1) (hb : c = true → EV X b ⟨G, O1⟩ (.d (.bl d)) O2) (h0 : c = false → O2 = O1) : EV X (.BoolOp .And [a, b] pos) ⟨G, O⟩ (.d (.bl (c && d))) O2 := EV.mk fun bd σ H g Q k =>
  toE (pe_and peE (pe_one peE)) (ha.use g fun v H1 g1 x1 ok1 => by
    refine ⟨c, ok1, ?_⟩
    cases c with
    | true => exact iteT ((hb rfl).use g1 fun w H2 g2 x2 ok2 => k w H2 g2 (x1.trans x2) ok2)
    | false =>
      obtain rfl := h0 rfl
      exact iteF (k _ H1 g1 x1 rfl))
theorem ev_or {c : Bool} {d : Bool} (ha : EV X a ⟨G, O⟩ (.d (.bl c)) O1) (hb : c = false → EV X b ⟨G, O1⟩ (.d (.bl d)) O2) (h0 : c = true → O2 = O1) : EV X (.BoolOp .Or [a, b] pos) ⟨G, O⟩ (.d (.bl (c || d))) O2 := EV.mk fun bd σ H g Q k =>
  toE (pe_or peE (pe_one peE)) (ha.use g fun v H1 g1 x1 ok1 => by
    refine ⟨c, ok1, ?_⟩
    cases c with
    | false => exact iteF ((hb rfl).use g1 fun w H2 g2 x2 ok2 => k w H2 g2 (x1.trans x2) ok2)
    | true =>
      obtain rfl := h0 rfl
      exact iteT (k _ H1 g1 x1 rfl))
theorem ev_not {c : Bool} (ha : EV X a ⟨G, O⟩ (.d (.bl c)) O1) : EV X (.UnaryOp .Not a pos) ⟨G, O⟩ (.d (.bl (!c))) O1 := EV.mk fun bd σ H g Q k =>
  toE (pe_not peE) (ha.use g fun v H1 g1 x1 ok1 => ⟨c, ok1, k _ H1 g1 x1 rfl⟩)
theorem ev_ifx {t : Expr} {c : Bool} (hc : ET X t ⟨G, O⟩ c O1) (ha : c = true → EV X a ⟨G, O1⟩ r O2) (hb : c = false → EV X b ⟨G, O1⟩ r O2) : EV X (.IfExp t a b pos) ⟨G, O⟩ r O2 := EV.mk fun bd σ H g Q k =>
  toE (pe_ifExp ptT peE peE) (hc bd σ H g _ fun H1 g1 x1 => by
    cases c with
    | true => exact iteT ((ha rfl).use g1 fun w H2 g2 x2 ok2 => k w H2 g2 (x1.trans x2) ok2)
    | false => exact iteF ((hb rfl).use g1 fun w H2 g2 x2 ok2 => k w H2 g2 (x1.trans x2) ok2))

/-! ### arguments, displays -/
theorem ea_nil : EA X [] ⟨G, O⟩ [] O := fun bd σ H g Q k => toA pa_nil (k [] H g (Ext.refl _) rfl)
theorem ea_cons {es : List Expr} {rs : List En} (ha : EV X a ⟨G, O⟩ x O1) (hr : EA X es ⟨G, O1⟩ rs O2) (hs : starEach (a :: es) X.env = (false, eval a X.env) :: starEach es X.env := by rfl) : EA X (a :: es) ⟨G, O⟩ (x :: rs) O2 := fun bd σ H g Q k =>
  toA (pa_cons peE paA hs) (ha.use g fun v H1 g1 x1 ok1 => hr bd σ H1 g1 _ fun vs H2 g2 x2 ok2 => k (v :: vs) H2 g2 (x1.trans x2) ⟨v, vs, rfl, ok1.mono x2, ok2⟩)
theorem Good.newTup {K : PySem.W.Frag} {bd : Bd} {H : Hp} {σ : L2.St} {G : List (Option En)} {O : List OE} {p : Addr} {ds : List D} {vs : List V} (g : Good K bd σ H ⟨G, O⟩) (hn : H p = none) (hu : Reps K (stab bd.Oc H O) ds vs) :
    Good K bd σ (upd H p (.tup vs)) ⟨G, O⟩ ∧ Ext (stab bd.Oc H O) (stab bd.Oc (upd H p (.tup vs)) O) ∧ Rep K (stab bd.Oc (upd H p (.tup vs)) O) (.tup ds) (.ref p) := by
  obtain ⟨g1, sm, e⟩ := g.newD (u := .tup vs) hn
  exact ⟨g1, Ext.of_same sm, p, vs, rfl, .inl (.inl e), hu.mono (Ext.of_same sm)⟩
theorem ev_tup {es : List Expr} {rs : List En} {ds : List D} {x1} (h0 : EA X es ⟨G, O⟩ rs O1) (hu : unD rs = some ds := by rfl) (hl : Nat.ble ds.length 100 = true := by rfl) : EV X (.Tuple es x1 pos) ⟨G, O⟩ (.d (.tup ds)) O1 := EV.mk fun bd σ H g Q k => by
  have h : EA X es ⟨G, O⟩ (ds.map .d) O1 := by rw [← unD_eq hu]; exact h0
  exact toE (pe_tup paA) (h bd σ H g _ fun vs H1 g1 x1 ok => ⟨by
    rw [ok.length, List.length_map]
    exact Nat.le_trans (Nat.le_of_ble_eq_true hl) (by decide), fun p hp => by
    obtain ⟨g2, x2, rp⟩ := g1.newTup hp ok.reps
    exact k _ _ g2 (x1.trans x2) rp⟩)
theorem en_lst {es : List Expr} {rs : List En} (h : EA X es ⟨G, O⟩ rs O1) (hl : Nat.ble rs.length 100 = true := by rfl) : EN X (.List es pos) ⟨G, O⟩ (.lst rs) O1 := EN.mk fun bd σ H g Q k =>
  toE (pe_lst paA) (h bd σ H g _ fun vs H1 g1 x1 ok => ⟨by
    rw [ok.length]
    exact Nat.le_trans (Nat.le_of_ble_eq_true hl) (by decide), fun p hp => by
    obtain ⟨g2, x2⟩ := g1.new (o := .lst rs) hp ⟨vs, rfl, ok⟩
    exact k _ _ g2 (x1.trans x2)⟩)
end

/-! ### statements -/
structure SPost where
  nx : Env → Prop
  rt : En → List OE → Prop := fun _ _ => False
  bk : Env → Prop := fun _ => False
  ct : Env → Prop := fun _ => False
  ex : Addr → List (Str × D) → Env → Prop := fun _ _ _ => False
/-- an exception of the class at C with these fields -/
def ExcAt (K : PySem.W.Frag) (S : Hp) (cls : Value) (d : Option Addr) (C : Addr) (fs : List (Str × D)) : Prop := cls = .ref C ∧ ∃ dx ws, d = some dx ∧ S dx = some (.xd ws) ∧ RepF K S fs ws
theorem ExcAt.mono {K : PySem.W.Frag} {S S' : Hp} {cls : Value} {d : Option Addr} {C : Addr} {fs : List (Str × D)} (e : Ext S S') (h : ExcAt K S cls d C fs) : ExcAt K S' cls d C fs := by
  obtain ⟨h1, dx, ws, h2, h3, h4⟩ := h
  exact ⟨h1, dx, ws, h2, e.at_ _ _ trivial h3, RepF.mono e h4⟩
structure Cont (X : Cx) (bd : Bd) (P : SPost) (D : Ends) : Prop where
  nx : ∀ σ H E, Good X.K bd σ H E → P.nx E → D.nx σ H
  rt : ∀ v H r O, Good X.K bd [some v] H ⟨[some r], O⟩ → P.rt r O → D.rt v H
  bk : ∀ σ H E, Good X.K bd σ H E → P.bk E → D.bk σ H
  ct : ∀ σ H E, Good X.K bd σ H E → P.ct E → D.ct σ H
  ex : Takes X fun cls d σ H => ∃ E C fs, Good X.K bd σ H E ∧ ExcAt X.K (stab bd.Oc H E.O) cls d C fs ∧ P.ex C fs E
def WS (X : Cx) (st : Stmt) (P : SPost) (E : Env) : Prop := ∀ bd σ H, Good X.K bd σ H E → ∀ D, Cont X bd P D → tS X st D σ H
def WSs (X : Cx) (sts : List Stmt) (P : SPost) (E : Env) : Prop := ∀ bd σ H, Good X.K bd σ H E → ∀ D, Cont X bd P D → tSs X sts D σ H
section
variable {X : Cx} {st : Stmt} {sts : List Stmt} {nx : Env → Prop} {rt : En → List OE → Prop} {bk ct : Env → Prop} {ex : Addr → List (Str × D) → Env → Prop}  {G : List (Option En)} {O O1 O2 : List OE} {e : Expr} {r : En} {pos : Pos}
theorem ws_nil (h : nx ⟨G, O⟩) : WSs X [] ⟨nx, rt, bk, ct, ex⟩ ⟨G, O⟩ := fun bd σ H g D c => toSs pss_nil (c.nx σ H _ g h)
theorem ws_cons (h : WS X st ⟨fun E' => WSs X sts ⟨nx, rt, bk, ct, ex⟩ E', rt, bk, ct, ex⟩ ⟨G, O⟩) : WSs X (st :: sts) ⟨nx, rt, bk, ct, ex⟩ ⟨G, O⟩ := fun bd σ H g D c =>
  toSs (pss_cons psS pssS) (h bd σ H g { D with nx := tSs X sts D } ⟨fun σ' H' E' g' w => w bd σ' H' g' D c, c.rt, c.bk, c.ct, c.ex⟩)
/-- what a state says may be weakened -/
theorem ws_weak {E' : Env} (k : ∀ bd σ H, Good X.K bd σ H ⟨G, O⟩ → Good X.K bd σ H E') (h : WSs X sts ⟨nx, rt, bk, ct, ex⟩ E') : WSs X sts ⟨nx, rt, bk, ct, ex⟩ ⟨G, O⟩ := fun bd σ H g D c => h bd σ H (k bd σ H g) D c
theorem ws_setW {x : Str} {P' : En → List OE → Prop} {pos' : Pos} (i : Nat) (h : EW X e ⟨G, O⟩ P') (k : ∀ r O', P' r O' → nx ⟨G.set i (some r), O'⟩) (hN : X.N.Nodup) (hi : X.N[i]? = some x := by rfl) (hx : Loc X.env.scope x := by first | exact Or.inl rfl | exact Or.inr rfl)
    (hs : swapsWith e (some (.Name x pos')) pos.line X.env = pure false := by rfl) (hf : X.fn x = true ∨ X.env.scope.names.lookup x = some .local := by first | exact .inl rfl | exact .inr rfl) : WS X (.Assign [.Name x pos'] e pos) ⟨nx, rt, bk, ct, ex⟩ ⟨G, O⟩ := fun bd σ H g D c =>
  toS (ps_set hN hi hx peE hs hf) (h bd σ H g _ fun v H' r O' p g' x ok => c.nx _ _ _ (g'.set i ok) (k r O' p))
theorem ws_set {x : Str} {pos' : Pos} (i : Nat) (h : EV X e ⟨G, O⟩ r O1) (k : nx ⟨G.set i (some r), O1⟩) (hN : X.N.Nodup) (hi : X.N[i]? = some x := by rfl) (hx : Loc X.env.scope x := by first | exact Or.inl rfl | exact Or.inr rfl)
    (hs : swapsWith e (some (.Name x pos')) pos.line X.env = pure false := by rfl) (hf : X.fn x = true ∨ X.env.scope.names.lookup x = some .local := by first | exact .inl rfl | exact .inr rfl) : WS X (.Assign [.Name x pos'] e pos) ⟨nx, rt, bk, ct, ex⟩ ⟨G, O⟩ :=
  ws_setW i h (fun r' O' ⟨e1, e2⟩ => by rw [e1, e2]; exact k) hN hi hx hs hf
theorem ws_setN {x : Str} {o : OO} {pos' : Pos} (i : Nat) (h : EN X e ⟨G, O⟩ o O1) (k : ∀ p, nx ⟨G.set i (some (.raw (.ref p))), (p, o) :: O1⟩) (hN : X.N.Nodup) (hi : X.N[i]? = some x := by rfl) (hx : Loc X.env.scope x := by first | exact Or.inl rfl | exact Or.inr rfl)
    (hs : swapsWith e (some (.Name x pos')) pos.line X.env = pure false := by rfl) (hf : X.fn x = true ∨ X.env.scope.names.lookup x = some .local := by first | exact .inl rfl | exact .inr rfl) : WS X (.Assign [.Name x pos'] e pos) ⟨nx, rt, bk, ct, ex⟩ ⟨G, O⟩ :=
  ws_setW i h (fun r' O' ⟨p, e1, e2⟩ => by rw [e1, e2]; exact k p) hN hi hx hs hf
theorem ws_retW {P' : En → List OE → Prop} (h : EW X e ⟨G, O⟩ P') (k : ∀ r O', P' r O' → rt r O') : WS X (.Return (some e) pos) ⟨nx, rt, bk, ct, ex⟩ ⟨G, O⟩ := fun bd σ H g D c =>
  toS (ps_ret peE) (h bd σ H g _ fun v H' r O' p g' x ok => c.rt v H' r O' (g'.one ok) (k r O' p))
theorem ws_ret (h : EV X e ⟨G, O⟩ r O1) (k : rt r O1) : WS X (.Return (some e) pos) ⟨nx, rt, bk, ct, ex⟩ ⟨G, O⟩ := ws_retW h fun r' O' ⟨e1, e2⟩ => by rw [e1, e2]; exact k
theorem ws_retN {o : OO} (h : EN X e ⟨G, O⟩ o O1) (k : ∀ p, rt (.raw (.ref p)) ((p, o) :: O1)) : WS X (.Return (some e) pos) ⟨nx, rt, bk, ct, ex⟩ ⟨G, O⟩ := ws_retW h fun r' O' ⟨p, e1, e2⟩ => by rw [e1, e2]; exact k p
theorem ws_exprW {P' : En → List OE → Prop} (h : EW X e ⟨G, O⟩ P') (k : ∀ r O', P' r O' → nx ⟨G, O'⟩) (hs : swapsWith e none pos.line X.env = pure false := by rfl) : WS X (.Expr e pos) ⟨nx, rt, bk, ct, ex⟩ ⟨G, O⟩ := fun bd σ H g D c =>
  toS (ps_expr peE hs) (h bd σ H g _ fun v H' r O' p g' x ok => c.nx _ _ _ g' (k r O' p))
theorem ws_expr (h : EV X e ⟨G, O⟩ r O1) (k : nx ⟨G, O1⟩) (hs : swapsWith e none pos.line X.env = pure false := by rfl) : WS X (.Expr e pos) ⟨nx, rt, bk, ct, ex⟩ ⟨G, O⟩ := ws_exprW h (fun r' O' ⟨e1, e2⟩ => by rw [e2]; exact k) hs
theorem ws_if {t : Expr} {a b : List Stmt} {c : Bool} (h : ET X t ⟨G, O⟩ c O1) (ha : c = true → WSs X a ⟨nx, rt, bk, ct, ex⟩ ⟨G, O1⟩) (hb : c = false → WSs X b ⟨nx, rt, bk, ct, ex⟩ ⟨G, O1⟩) : WS X (.If t a b pos) ⟨nx, rt, bk, ct, ex⟩ ⟨G, O⟩ := fun bd σ H g D k =>
  toS (ps_if ptT pssS pssS) (h bd σ H g _ fun H1 g1 x1 => by
    cases c with
    | true => exact iteT (ha rfl bd σ H1 g1 D k)
    | false => exact iteF (hb rfl bd σ H1 g1 D k))
theorem ws_pass (h : nx ⟨G, O⟩) : WS X (.Pass pos) ⟨nx, rt, bk, ct, ex⟩ ⟨G, O⟩ := fun bd σ H g D c => toS ps_pass (c.nx σ H _ g h)
theorem ws_break (h : bk ⟨G, O⟩) : WS X (.Break pos) ⟨nx, rt, bk, ct, ex⟩ ⟨G, O⟩ := fun bd σ H g D c => toS ps_break (c.bk σ H _ g h)
theorem ws_continue (h : ct ⟨G, O⟩) : WS X (.Continue pos) ⟨nx, rt, bk, ct, ex⟩ ⟨G, O⟩ := fun bd σ H g D c => toS ps_continue (c.ct σ H _ g h)
/-- a while: W what holds at the m-th turn from the end -/
theorem ws_while {t : Expr} {body : List Stmt} (W : Nat → Env → Prop) (h0 : ∃ m, W m ⟨G, O⟩) (hp : PassesOwn (model X.prog X.w) X.A X.env X.xe)
    (hs : ∀ m G O, W m ⟨G, O⟩ → ∃ c O1, ET X t ⟨G, O⟩ c O1 ∧ (c = true → WSs X body ⟨fun E' => ∃ m', m' < m ∧ W m' E', rt, nx, fun E' => ∃ m', m' < m ∧ W m' E', ex⟩ ⟨G, O1⟩) ∧ (c = false → nx ⟨G, O1⟩)) : WS X (.While t body [] pos) ⟨nx, rt, bk, ct, ex⟩ ⟨G, O⟩ := fun bd σ H g D k =>
  toS (ps_while hp ptT pssS) ⟨fun m σ H => ∃ E, Good X.K bd σ H E ∧ W m E, h0.imp fun m w => ⟨⟨G, O⟩, g, w⟩, fun m σ1 H1 ⟨E1, g1, w⟩ => by
    obtain ⟨c, O1, ht, h1, h2⟩ := hs m E1.G E1.O w
    refine ht bd σ1 H1 g1 _ fun H2 g2 x2 => ?_
    cases c with
    | true =>
      refine iteT ⟨fun σ' H' => ∃ E', Good X.K bd σ' H' E' ∧ ∃ m', m' < m ∧ W m' E', fun σ' H' ⟨E', g', m', l, w'⟩ => ⟨m', l, E', g', w'⟩, ?_⟩
      exact h1 rfl bd σ1 H2 g2 _ ⟨fun σ' H' E' g' w' => ⟨E', g', w'⟩, k.rt, k.nx, fun σ' H' E' g' w' => ⟨E', g', w'⟩, k.ex⟩
    | false => exact iteF (k.nx _ _ _ g2 (h2 rfl))⟩
end
end Lx

/-! Lx, part D: calls of defs, methods, classes; what a def promises; views of objects. -/
namespace Lx
open PySem PySem.Spec PyProof.Rows L2

/-- the bounds of a callee that is lent Of -/
def lendB (bd : Bd) (H : Hp) (O Of Or : List OE) : Bd := ⟨bd.Oc ++ own Or, hide (own Of) H, stab bd.Oc H O⟩
section
variable {K : PySem.W.Frag} {bd : Bd} {H H' : Hp} {σ : L2.St} {G : List (Option En)} {O Of Or O1 : List OE} {rs : List En} {vs : List V} {v : V} {r : En}
/-- the callee's state: it is lent Of -/
theorem Good.lend (g : Good K bd σ H ⟨G, O⟩) (hp : O.Perm (Of ++ Or)) (hr : EnsOk K (stab bd.Oc H O) rs vs) : Good K (lendB bd H O Of Or) (vs.map some) H ⟨rs.map some, Of⟩ := by
  have hm : (own O).Perm (own Of ++ own Or) := by
    have := hp.map Prod.fst
    rw [List.map_append] at this
    exact this
  have es : stab (lendB bd H O Of Or).Oc H Of = stab bd.Oc H O := hide_congr fun a => by
    show a ∈ (bd.Oc ++ own Or) ++ own Of ↔ a ∈ bd.Oc ++ own O
    rw [List.mem_append, List.mem_append, List.mem_append, hm.mem_iff, List.mem_append]
    constructor
    · rintro ((h | h) | h)
      · exact .inl h
      · exact .inr (.inr h)
      · exact .inr (.inl h)
    · rintro (h | h | h)
      · exact .inl (.inl h)
      · exact .inr h
      · exact .inl (.inr h)
  have nd := hm.nodup_iff.mp g.nd
  obtain ⟨nd1, nd2, nd3⟩ := List.nodup_append.mp nd
  refine ⟨fun q hq => ?_, hide_same, by show Ext (stab bd.Oc H O) (stab (lendB bd H O Of Or).Oc H Of); rw [es]; exact Ext.refl _, fun q hq => hide_in hq, nd1, ?_, fun q hq => ?_⟩
  · show ∃ o, hide (own Of) H q = some o
    rcases List.mem_append.mp (show q ∈ bd.Oc ++ own Or from hq) with hq | hq
    · obtain ⟨o, e⟩ := g.ocB q hq
      refine ⟨o, ?_⟩
      rw [hide_out fun z => ?_]
      · exact g.same _ _ e
      · have := g.dis q (hm.mem_iff.mpr (List.mem_append_left _ z))
        exact this hq
    · obtain ⟨x, hx, rfl⟩ := List.mem_map.mp hq
      obtain ⟨o, e, _⟩ := g.objs x (hp.mem_iff.mpr (List.mem_append_right _ hx))
      exact ⟨o, by rw [hide_out fun z => nd3 _ z _ hq rfl]; exact e⟩
  · show Slots K (stab (lendB bd H O Of Or).Oc H Of) (rs.map some) (vs.map some)
    rw [es]
    exact Slots.of_ens hr
  · obtain ⟨o, e, k⟩ := g.objs q (hp.mem_iff.mpr (List.mem_append_left _ hq))
    exact ⟨o, e, by show OOok K (stab (lendB bd H O Of Or).Oc H Of) q.2 o; rw [es]; exact k⟩
/-- what the callee leaves -/
theorem Good.backX (g : Good K bd σ H ⟨G, O⟩) (hp : O.Perm (Of ++ Or)) {σ' : L2.St} {G' : List (Option En)} (g' : Good K (lendB bd H O Of Or) σ' H' ⟨G', O1⟩) :
    Good K bd σ H' ⟨G, O1 ++ Or⟩ ∧ Ext (stab bd.Oc H O) (stab bd.Oc H' (O1 ++ Or)) ∧ stab (lendB bd H O Of Or).Oc H' O1 = stab bd.Oc H' (O1 ++ Or) := by
  have hm : (own O).Perm (own Of ++ own Or) := by
    have := hp.map Prod.fst
    rw [List.map_append] at this
    exact this
  have hm1 : own (O1 ++ Or) = own O1 ++ own Or := List.map_append
  have nd := hm.nodup_iff.mp g.nd
  obtain ⟨nd1, nd2, nd3⟩ := List.nodup_append.mp nd
  have es : stab (lendB bd H O Of Or).Oc H' O1 = stab bd.Oc H' (O1 ++ Or) := hide_congr fun a => by
    show a ∈ (bd.Oc ++ own Or) ++ own O1 ↔ a ∈ bd.Oc ++ own (O1 ++ Or)
    rw [hm1, List.mem_append, List.mem_append, List.mem_append, List.mem_append]
    constructor
    · rintro ((h | h) | h)
      · exact .inl h
      · exact .inr (.inr h)
      · exact .inr (.inl h)
    · rintro (h | h | h)
      · exact .inl (.inl h)
      · exact .inr h
      · exact .inl (.inr h)
  have sm : Same (stab bd.Oc H O) (stab bd.Oc H' (O1 ++ Or)) := fun b x e => by
    obtain ⟨m, e⟩ := hide_some e
    have m1 : b ∉ bd.Oc := fun h => m (List.mem_append_left _ h)
    have m2 : b ∉ own Of := fun h => m (List.mem_append_right _ (hm.mem_iff.mpr (List.mem_append_left _ h)))
    have m3 : b ∉ own Or := fun h => m (List.mem_append_right _ (hm.mem_iff.mpr (List.mem_append_right _ h)))
    have e1 : hide (own Of) H b = some x := by rw [hide_out m2]; exact e
    have m4 : b ∉ own O1 := fun h => by
      have := show hide (own Of) H b = none from g'.fresh b h
      rw [e1] at this
      cases this
    show hide (bd.Oc ++ own (O1 ++ Or)) H' b = some x
    rw [hide_out]
    · exact g'.same _ _ e1
    · rw [hm1]
      intro h
      rcases List.mem_append.mp h with h | h
      · exact m1 h
      · rcases List.mem_append.mp h with h | h
        · exact m4 h
        · exact m3 h
  refine ⟨⟨g.ocB, fun b x e => ?_, g.low.trans (Ext.of_same sm), fun q hq => ?_, ?_, g.slots.mono (Ext.of_same sm), fun q hq => ?_⟩, Ext.of_same sm, es⟩
  · refine g'.same _ _ ?_
    show hide (own Of) H b = some x
    rw [hide_out fun z => ?_]
    · exact g.same _ _ e
    · have := g.fresh b (hm.mem_iff.mpr (List.mem_append_left _ z))
      rw [e] at this
      cases this
  · have hq : q ∈ own (O1 ++ Or) := hq
    rw [hm1] at hq
    rcases List.mem_append.mp hq with hq | hq
    · have h1 := show hide (own Of) H q = none from g'.fresh q hq
      cases e : bd.B q with
      | none => rfl
      | some x =>
        have h2 := g.same _ _ e
        have h3 : q ∉ own Of := fun z => by
          have := g.fresh q (hm.mem_iff.mpr (List.mem_append_left _ z))
          rw [e] at this
          cases this
        rw [hide_out h3, h2] at h1
        cases h1
    · exact g.fresh q (hm.mem_iff.mpr (List.mem_append_right _ hq))
  · show (own (O1 ++ Or)).Nodup
    rw [hm1]
    exact List.nodup_append.mpr ⟨g'.nd, nd2, fun a ha b hb e => by
      subst e
      exact g'.dis a ha (List.mem_append_right _ hb)⟩
  · rcases List.mem_append.mp hq with hq | hq
    · obtain ⟨o, e, k⟩ := g'.objs q hq
      exact ⟨o, e, by show OOok K (stab bd.Oc H' (O1 ++ Or)) q.2 o; rw [← es]; exact k⟩
    · obtain ⟨o, e, k⟩ := g.objs q (hp.mem_iff.mpr (List.mem_append_right _ hq))
      refine ⟨o, g'.same _ _ ?_, k.mono (Ext.of_same sm)⟩
      show hide (own Of) H q.1 = some o
      rw [hide_out fun z => nd3 _ z _ (List.mem_map.mpr ⟨q, hq, rfl⟩) rfl]
      exact e
theorem Good.back (g : Good K bd σ H ⟨G, O⟩) (hp : O.Perm (Of ++ Or)) (g' : Good K (lendB bd H O Of Or) [some v] H' ⟨[some r], O1⟩) :
    Good K bd σ H' ⟨G, O1 ++ Or⟩ ∧ Ext (stab bd.Oc H O) (stab bd.Oc H' (O1 ++ Or)) ∧ EnOk K (stab bd.Oc H' (O1 ++ Or)) r v := by
  obtain ⟨h1, h2, h3⟩ := g.backX hp g'
  obtain ⟨u, e, ok⟩ := g'.slot (i := 0) rfl
  injection e with e
  injection e with e
  subst e
  exact ⟨h1, h2, by rw [← h3]; exact ok⟩
end

/-! ### promises -/
/-- what a def promises: args, O0 what it is handed and lent; post what it gives and leaves; xp what it raises -/
structure FSp (ι : Type) where
  dom : ι → Prop
  args : ι → List En
  O0 : ι → List OE
  post : ι → En → List OE → Prop
  xp : ι → Addr → List (Str × D) → List OE → Prop := fun _ _ _ _ => False
def FSp.sp {ι : Type} (K : PySem.W.Frag) (F : FSp ι) : Sp := fun vs H Q E => ∃ i bd, F.dom i ∧ Good K bd (vs.map some) H ⟨(F.args i).map some, F.O0 i⟩ ∧
  (∀ v H' r O1, F.post i r O1 → Good K bd [some v] H' ⟨[some r], O1⟩ → Q v H') ∧ (∀ cls d H' C fs O1, F.xp i C fs O1 → Good K bd [] H' ⟨[], O1⟩ → ExcAt K (stab bd.Oc H' O1) cls d C fs → E cls d H')
/-- a def of the module by its name -/
structure Fn (P : Program) (w : World) (K : PySem.W.Frag) (mg : Str → Option Value) (base : Heap) (CX : CXT) (k : Nat) (x : Str) (ps : List Str) (sp : Sp) : Prop where
  ex : ∃ f fd, mg x = some (.ref f) ∧ FnOk P w K mg base CX k f fd ps sp ∧ PySem.W.keepIn K (.ref f) = true ∧ Binds K fd ps []
theorem Fn.mono {P : Program} {w : World} {K : PySem.W.Frag} {mg : Str → Option Value} {base : Heap} {CX : CXT} {j k : Nat} {x : Str} {ps : List Str} {sp : Sp} (F : Fn P w K mg base CX j x ps sp) (h : j ≤ k) : Fn P w K mg base CX k x ps sp := by
  obtain ⟨f, fd, h1, h2, h3, h4⟩ := F.ex
  exact ⟨f, fd, h1, h2.mono h, h3, h4⟩
section
variable {X : Cx} {ι : Type} {S : FSp ι} {k : Nat} {x m : Str} {ps : List Str} {p pos apos : Pos} {e o : Expr} {es : List Expr} {G : List (Option En)} {O : List OE} {O1 O2 Or : List OE} {rs : List En}
/-- f(e, ..), whatever it gives -/
theorem ew_call (F : Fn X.prog X.w X.K X.mg X.base CX0 k x ps (S.sp X.K)) (hr : Room k X.A) (i : ι) (hi : S.dom i) (ha : EA X (e :: es) E (S.args i) O1) (hp : O1.Perm (S.O0 i ++ Or)) (hx : ∀ C fs O', ¬ S.xp i C fs O') (hg : Gl X x := by rfl)
    (hdb : (x == ("__debug__" : Str)) = false := by decide) (he : starEach (e :: es) X.env = (false, eval e X.env) :: starEach es X.env := by rfl) (hpl : (backTo pos (starEach es X.env)).any (·.1) = false := by rfl) :
    EW X (.Call (.Name x p) (e :: es) [] pos) E fun r O' => ∃ O2, S.post i r O2 ∧ O' = O2 ++ Or := by
  obtain ⟨f, fd, h1, h2, h3, h4⟩ := F.ex
  intro bd σ H g Q q
  refine toE (pe_call (dvs := []) h2 hr hg h1 h3 h4 .nil pass0 paA hdb he hpl) (ha bd σ H g _ fun vs H1 g1 x1 ok => ?_)
  rw [List.append_nil]
  refine ⟨i, _, hi, g1.lend hp ok, fun v H' r O2 hpost g2 => ?_, fun cls d H' C fs O2 h _ _ => hx C fs O2 h⟩
  obtain ⟨g3, x3, ok3⟩ := g1.back hp g2
  exact q v H' r _ ⟨O2, hpost, rfl⟩ g3 (x1.trans x3) ok3
/-- .. without arguments -/
theorem ew_call0 (F : Fn X.prog X.w X.K X.mg X.base CX0 k x ps (S.sp X.K)) (hr : Room k X.A) (i : ι) (hi : S.dom i) (ha : S.args i = []) (hp : E.O.Perm (S.O0 i ++ Or)) (hx : ∀ C fs O', ¬ S.xp i C fs O') (hg : Gl X x := by rfl)
    (hdb : (x == ("__debug__" : Str)) = false := by decide) :
    EW X (.Call (.Name x p) [] [] pos) E fun r O' => ∃ O2, S.post i r O2 ∧ O' = O2 ++ Or := by
  obtain ⟨f, fd, h1, h2, h3, h4⟩ := F.ex
  intro bd σ H g Q q
  refine toE (pe_call0 (dvs := []) h2 hr hg h1 h3 h4 .nil pass0 hdb) ?_
  refine ⟨i, _, hi, by rw [ha]; exact g.lend (rs := []) (vs := []) hp rfl, fun v H' r O2 hpost g2 => ?_, fun cls d H' C fs O2 h _ _ => hx C fs O2 h⟩
  obtain ⟨g3, x3, ok3⟩ := g.back hp g2
  exact q v H' r _ ⟨O2, hpost, rfl⟩ g3 x3 ok3
/-- f(e, ..) of data alone -/
theorem ev_call {r : En} (F : Fn X.prog X.w X.K X.mg X.base CX0 k x ps (S.sp X.K)) (hr : Room k X.A) (i : ι) (hi : S.dom i) (ha : EA X (e :: es) E (S.args i) O1) (hp : O1.Perm (S.O0 i ++ Or)) (hpost : ∀ r' O', S.post i r' O' → r' = r ∧ O' = O2) (hx : ∀ C fs O', ¬ S.xp i C fs O' := by intro _ _ _ h; exact h) (hg : Gl X x := by rfl)
    (hdb : (x == ("__debug__" : Str)) = false := by decide) (he : starEach (e :: es) X.env = (false, eval e X.env) :: starEach es X.env := by rfl) (hpl : (backTo pos (starEach es X.env)).any (·.1) = false := by rfl) :
    EV X (.Call (.Name x p) (e :: es) [] pos) E r (O2 ++ Or) :=
  (ew_call F hr i hi ha hp hx hg hdb he hpl).imp fun r' O' ⟨O3, h1, h2⟩ => by
    obtain ⟨e1, e2⟩ := hpost r' O3 h1
    exact ⟨e1, by rw [h2, e2]⟩
end

/-! ### a def by its body -/
theorem start_eq (N : List Str) (vs : List V) : start N vs = vs.map some ++ List.replicate (N.length - vs.length) none := rfl
theorem takes_none {X : Cx} {W : WX} (h : ∀ c d σ H, ¬ W c d σ H) : Takes X W := fun u s' ⟨_, _, _, _, _, _, _, _, _, _, _, _, _, _, _, _, w⟩ => (h _ _ _ _ w).elim
section
variable {P : Program} {w : World} {K : PySem.W.Frag} {mg : Str → Option Value} {base : Heap} {x qual : Str} {params : Arguments} {body : List Stmt} {scope : Scope} {f : Addr} {fd : FuncData} {ι : Type} {S : FSp ι} {N ps : List Str} {k : Nat}
/-- no exception leaves -/
theorem fn_ok0 (F : FunD K x qual params body scope [] [] f fd) (sc : FnScope N ps scope) (hlen : ∀ i, S.dom i → (S.args i).length = ps.length)
    (h : ∀ (cdv : Value) (A : Around) (outer : List PySem.Env) (s : Shared) (H : Hp) (EX : XK), Room k (A.deeper (envOfC qual scope s.heap.objs.size f cdv)) → ∀ i, S.dom i →
      WSs (cxOf CX0 P w K mg base N qual scope f cdv A outer s H EX).nox body { nx := fun E => S.post i (.d .non) E.O, rt := S.post i } ⟨(S.args i).map some ++ List.replicate (N.length - ps.length) none, S.O0 i⟩) :
    FnOk P w K mg base CX0 (k + 1) f fd ps (S.sp K) := by
  have hl : ∀ (vs : List V) (H : Hp) (Q : VK) (E : XK), S.sp K vs H Q E → vs.length = ps.length := fun vs H Q E ⟨i, bd, hi, g, _, _⟩ => by
    have := g.slots.length
    rw [List.length_map, List.length_map, hlen i hi] at this
    exact this
  refine F.ok sc hl fun cdv A outer s H vs Q EX hr hsp => ?_
  refine ⟨_, (pssS (X := (cxOf CX0 P w K mg base N qual scope f cdv A outer s H EX).nox)).nox, ?_⟩
  have hlv := hl vs H Q EX hsp
  obtain ⟨i, bd, hi, g, hQ, hE⟩ := hsp
  refine h cdv A outer s H EX hr i hi bd _ H ?_ _ ⟨fun σ' H' E' g' p => hQ _ H' _ _ p (g'.one rfl), fun v H' r O' g' p => hQ v H' r O' p g', fun _ _ _ _ z => z.elim, fun _ _ _ _ z => z.elim, takes_none fun c d σ H ⟨_, _, _, _, _, z⟩ => z⟩
  rw [start_eq, hlv]
  exact g.re (g.slots.append (Slots.nones _))
/-- an exception may leave -/
theorem fn_okX (F : FunD K x qual params body scope [] [] f fd) (sc : FnScope N ps scope) (hlen : ∀ i, S.dom i → (S.args i).length = ps.length)
    (h : ∀ (cdv : Value) (A : Around) (outer : List PySem.Env) (s : Shared) (H : Hp) (EX : XK), Room k (A.deeper (envOfC qual scope s.heap.objs.size f cdv)) → ∀ i, S.dom i →
      WSs (cxOf (CX P w) P w K mg base N qual scope f cdv A outer s H EX) body { nx := fun E => S.post i (.d .non) E.O, rt := S.post i, ex := fun C fs E => S.xp i C fs E.O } ⟨(S.args i).map some ++ List.replicate (N.length - ps.length) none, S.O0 i⟩) :
    FnOk P w K mg base (CX P w) (k + 1) f fd ps (S.sp K) := by
  have hl : ∀ (vs : List V) (H : Hp) (Q : VK) (E : XK), S.sp K vs H Q E → vs.length = ps.length := fun vs H Q E ⟨i, bd, hi, g, _, _⟩ => by
    have := g.slots.length
    rw [List.length_map, List.length_map, hlen i hi] at this
    exact this
  refine F.ok sc hl fun cdv A outer s H vs Q EX hr hsp => ?_
  refine ⟨_, pssS (X := cxOf (CX P w) P w K mg base N qual scope f cdv A outer s H EX), ?_⟩
  have hlv := hl vs H Q EX hsp
  obtain ⟨i, bd, hi, g, hQ, hE⟩ := hsp
  refine h cdv A outer s H EX hr i hi bd _ H ?_ _ ⟨fun σ' H' E' g' p => hQ _ H' _ _ p (g'.one rfl), fun v H' r O' g' p => hQ v H' r O' p g', fun _ _ _ _ z => z.elim, fun _ _ _ _ z => z.elim,
    (takes_of rfl rfl rfl rfl).imp fun c d σ H ⟨E', C, fs, g', x, z⟩ => hE c d H C fs E'.O z g'.bare x⟩
  rw [start_eq, hlv]
  exact g.re (g.slots.append (Slots.nones _))
theorem Fn.mk0 (F : FunD K x qual params body scope [] [] f fd) (hm : mg x = some (.ref f)) {CX : CXT} {j : Nat} {sp : Sp} (h : FnOk P w K mg base CX j f fd ps sp)
    (hb : ∀ (kV doc pm : Value) (an : Option Addr) (cdv ct : Value) (us : List Value), us.length = ps.length → bindArgs (PySem.W.fnOf x qual params body scope .none kV doc pm an cdv ct) ⟨us, []⟩ = pure (ps.zip us)) : Fn P w K mg base CX j x ps sp :=
  ⟨f, fd, hm, h, F.kp, F.bindsN hb⟩
end

/-! ### views: what may be read of an entry -/
def LsAt (K : PySem.W.Frag) (O : List OE) (r : En) (xs : List En) : Prop := ∀ bd σ H G v, Good K bd σ H ⟨G, O⟩ → EnOk K (stab bd.Oc H O) r v → ∃ a vs, v = .ref a ∧ SqL K H a vs ∧ EnsOk K (stab bd.Oc H O) xs vs
/-- .. and it is an unlocked one -/
def LsX (K : PySem.W.Frag) (O : List OE) (r : En) (xs : List En) : Prop := ∀ bd σ H G v, Good K bd σ H ⟨G, O⟩ → EnOk K (stab bd.Oc H O) r v → ∃ a vs, v = .ref a ∧ H a = some (.lst vs) ∧ EnsOk K (stab bd.Oc H O) xs vs
def TpAt (K : PySem.W.Frag) (O : List OE) (r : En) (ds : List D) : Prop := ∀ bd σ H G v, Good K bd σ H ⟨G, O⟩ → EnOk K (stab bd.Oc H O) r v → ∃ a vs, v = .ref a ∧ TupAt K (stab bd.Oc H O) a vs ∧ Reps K (stab bd.Oc H O) ds vs
def InsAt (K : PySem.W.Frag) (O : List OE) (r : En) (C : Addr) (fs : List (Str × En)) : Prop := ∀ bd σ H G v, Good K bd σ H ⟨G, O⟩ → EnOk K (stab bd.Oc H O) r v → ∃ a dx ws, v = .ref a ∧ H a = some (.ins C dx ws) ∧ EnKOk K (stab bd.Oc H O) fs ws
theorem stab_at {bd : Bd} {H : Hp} {O : List OE} {a : Addr} {u : HO} (h : stab bd.Oc H O a = some u) : H a = some u := hide_same a u h
theorem TupAt.up {K : PySem.W.Frag} {bd : Bd} {H : Hp} {O : List OE} {a : Addr} {vs : List V} (h : TupAt K (stab bd.Oc H O) a vs) : SqT K H a vs := by
  rcases h with (h | ⟨o, h, _⟩) | h
  · exact SqT.of (stab_at h)
  · exact .inl (.inr ⟨o, stab_at h⟩)
  · exact .inr h
section
variable {K : PySem.W.Frag} {O : List OE}
theorem lsx_d {ds : List D} : LsX K O (.d (.lst ds)) (ds.map .d) := fun bd σ H G v g ⟨a, vs, e, h1, h2⟩ => ⟨a, vs, e, stab_at h1, EnsOk.of_reps h2⟩
theorem lsx_own {p : Addr} {xs : List En} (j : Nat) (h : O[j]? = some (p, .lst xs) := by rfl) : LsX K O (.raw (.ref p)) xs := fun bd σ H G v g e => by
  obtain ⟨u, h1, vs, rfl, h2⟩ := g.obj h
  exact ⟨p, vs, e, h1, h2⟩
theorem LsX.at {r : En} {xs : List En} (h : LsX K O r xs) : LsAt K O r xs := fun bd σ H G v g e =>
  let ⟨a, vs, e1, h1, h2⟩ := h bd σ H G v g e
  ⟨a, vs, e1, SqL.of h1, h2⟩
theorem lsat_d {ds : List D} : LsAt K O (.d (.lst ds)) (ds.map .d) := lsx_d.at
theorem lsat_own {p : Addr} {xs : List En} (j : Nat) (h : O[j]? = some (p, .lst xs) := by rfl) : LsAt K O (.raw (.ref p)) xs := (lsx_own j h).at
theorem lsat_F {ds : List D} : LsAt K O (.d (.lstF ds)) (ds.map .d) := fun bd σ H G v g ⟨a, vs, e, h1, h2⟩ => ⟨a, vs, e, by
  rcases h1 with (h | ⟨o, h⟩) | h
  · exact .inl (.inl (stab_at h))
  · exact .inl (.inr ⟨o, stab_at h⟩)
  · exact .inr h, EnsOk.of_reps h2⟩
theorem tpat_d {ds : List D} : TpAt K O (.d (.tup ds)) ds := fun bd σ H G v g h => h
theorem insat_d {C : Addr} {fs : List (Str × D)} : InsAt K O (.d (.ins C fs)) C (fs.map fun q => (q.1, En.d q.2)) := fun bd σ H G v g ⟨a, dx, ws, e, h1, h2⟩ => ⟨a, dx, ws, e, stab_at h1, EnKOk.of_repF h2⟩
theorem insat_own {p C : Addr} {fs : List (Str × En)} (j : Nat) (h : O[j]? = some (p, .ins C fs) := by rfl) : InsAt K O (.raw (.ref p)) C fs := fun bd σ H G v g e => by
  obtain ⟨u, h1, dx, vs, rfl, h2⟩ := g.obj h
  exact ⟨p, dx, vs, e, h1, h2⟩
end
end Lx

/-! Lx, part E: frames, targets, loops, comprehensions. -/
namespace Lx
open PySem PySem.Spec PyProof.Rows L2

/-! ### what is not touched stays -/
def frB (bd : Bd) (H : Hp) (p : Addr) (u : HO) : Bd := ⟨p :: bd.Oc, upd bd.B p u, bd.S⟩
section
variable {K : PySem.W.Frag} {bd : Bd} {H H' : Hp} {σ σ' : L2.St} {G G' : List (Option En)} {O O' : List OE} {p : Addr} {o : OO}
theorem stab_fr {q : OE} {Oc : List Addr} : stab (q.1 :: Oc) H O = stab Oc H (q :: O) := hide_congr fun a => by
  show a ∈ (q.1 :: Oc) ++ own O ↔ a ∈ Oc ++ (q.1 :: own O)
  rw [List.mem_append, List.mem_append, List.mem_cons, List.mem_cons]
  constructor
  · rintro ((h | h) | h)
    · exact .inr (.inl h)
    · exact .inl h
    · exact .inr (.inr h)
  · rintro (h | h | h)
    · exact .inl (.inr h)
    · exact .inl (.inl h)
    · exact .inr h
theorem Good.fr (g : Good K bd σ H ⟨G, (p, o) :: O⟩) {u : HO} (hu : H p = some u) : Good K (frB bd H p u) σ H ⟨G, O⟩ := by
  have es : stab (frB bd H p u).Oc H O = stab bd.Oc H ((p, o) :: O) := stab_fr (q := (p, o))
  obtain ⟨hp, nd⟩ := List.nodup_cons.mp g.nd
  refine ⟨fun q hq => ?_, fun b x e => ?_, by rw [es]; exact g.low, fun q hq => ?_, nd, by rw [es]; exact g.slots, fun q hq => ?_⟩
  · show ∃ x, upd bd.B p u q = some x
    by_cases e : q = p
    · rw [e]
      exact ⟨u, upd_same⟩
    · rcases List.mem_cons.mp (show q ∈ p :: bd.Oc from hq) with h | h
      · exact absurd h e
      · obtain ⟨x, hx⟩ := g.ocB q h
        exact ⟨x, by rw [upd_ne e]; exact hx⟩
  · have e : upd bd.B p u b = some x := e
    by_cases h : b = p
    · subst h
      rw [upd_same] at e
      rw [← e]
      exact hu
    · rw [upd_ne h] at e
      exact g.same _ _ e
  · show upd bd.B p u q = none
    rw [upd_ne fun e => hp (by rw [← e]; exact hq)]
    exact g.fresh q (List.mem_cons_of_mem _ hq)
  · rw [es]
    exact g.objs q (List.mem_cons_of_mem _ hq)
theorem Good.unfr (g : Good K bd σ H ⟨G, (p, o) :: O⟩) {u : HO} (hu : H p = some u) (g' : Good K (frB bd H p u) σ' H' ⟨G', O'⟩) (x : Ext (stab bd.Oc H ((p, o) :: O)) (stab bd.Oc H' ((p, o) :: O'))) :
    Good K bd σ' H' ⟨G', (p, o) :: O'⟩ := by
  have es : stab (frB bd H p u).Oc H' O' = stab bd.Oc H' ((p, o) :: O') := stab_fr (q := (p, o))
  have hp : p ∉ own O' := fun h => by
    have := g'.fresh p h
    rw [show (frB bd H p u).B p = some u from upd_same] at this
    cases this
  have hB : bd.B p = none := g.fresh p List.mem_cons_self
  refine ⟨g.ocB, fun b x e => ?_, by rw [← es]; exact g'.low, fun q hq => ?_, List.nodup_cons.mpr ⟨hp, g'.nd⟩, by rw [← es]; exact g'.slots, fun q hq => ?_⟩
  · refine g'.same _ _ ?_
    show upd bd.B p u b = some x
    rw [upd_ne fun h => ?_]
    · exact e
    · subst h
      rw [hB] at e
      cases e
  · rcases List.mem_cons.mp (show q ∈ p :: own O' from hq) with rfl | hq
    · exact hB
    · have := g'.fresh q hq
      have this : upd bd.B p u q = none := this
      rw [upd_ne fun e => hp (by rw [← e]; exact hq)] at this
      exact this
  · rcases List.mem_cons.mp hq with rfl | hq
    · obtain ⟨u', e1, k⟩ := g.objs (p, o) List.mem_cons_self
      have e2 : u' = u := Option.some.inj (e1.symm.trans hu)
      subst e2
      exact ⟨u', g'.same _ _ (show (frB bd H p u').B p = some u' from upd_same), k.mono x⟩
    · rw [← es]
      exact g'.objs q hq
end
section
variable {X : Cx} {e : Expr} {G : List (Option En)} {O O' : List OE} {r : En} {q : OE} {P : En → List OE → Prop}
theorem EW.frame (h : EW X e ⟨G, O⟩ P) (q : OE) : EW X e ⟨G, q :: O⟩ fun r O'' => ∃ O1, P r O1 ∧ O'' = q :: O1 := fun bd σ H g Q k => by
  obtain ⟨p, o⟩ := q
  obtain ⟨u, hu, _⟩ := g.obj (j := 0) rfl
  refine h (frB bd H p u) σ H (g.fr hu) Q fun v H' r O1 hP g' x ok => ?_
  have x' : Ext (stab bd.Oc H ((p, o) :: O)) (stab bd.Oc H' ((p, o) :: O1)) := by
    rw [← stab_fr (q := (p, o)), ← stab_fr (q := (p, o))]
    exact x
  refine k v H' r _ ⟨O1, hP, rfl⟩ (g.unfr hu g' x') x' ?_
  rw [← stab_fr (q := (p, o))]
  exact ok
theorem EV.frame (h : EV X e ⟨G, O⟩ r O') (q : OE) : EV X e ⟨G, q :: O⟩ r (q :: O') := (EW.frame h q).imp fun r' O'' ⟨O1, ⟨e1, e2⟩, e3⟩ => ⟨e1, by rw [e3, e2]⟩
theorem ET.frame {c : Bool} (h : ET X e ⟨G, O⟩ c O') (q : OE) : ET X e ⟨G, q :: O⟩ c (q :: O') := fun bd σ H g Q k => by
  obtain ⟨p, o⟩ := q
  obtain ⟨u, hu, _⟩ := g.obj (j := 0) rfl
  refine h (frB bd H p u) σ H (g.fr hu) Q fun H' g' x => ?_
  have x' : Ext (stab bd.Oc H ((p, o) :: O)) (stab bd.Oc H' ((p, o) :: O')) := by
    rw [← stab_fr (q := (p, o)), ← stab_fr (q := (p, o))]
    exact x
  exact k H' (g.unfr hu g' x') x'
end

/-! ### targets -/
def tG (X : Cx) (tg : Expr) : TG := fun v σ H Q => ∀ (pins : List (Addr × Obj)) (s : Shared) (u : Value), Inv X pins σ H s → RelV v u → wpAny (model X.prog X.w) X.A (assign tg X.env u) (fun _ s' => ∃ σ' H', Inv X pins σ' H' s' ∧ Q σ' H') X.xe s
theorem pgG {X : Cx} {tg : Expr} : PG X tg (tG X tg) := ⟨fun pins s _ _ _ u _ I r h => h pins s u I r⟩
theorem toG {X : Cx} {tg : Expr} {g : TG} (p : PG X tg g) {v : V} {σ : L2.St} {H : Hp} {Q : L2.St → Hp → Prop} (h : g v σ H Q) : tG X tg v σ H Q := fun pins s u I r => p.run pins s σ H v u Q I r h
def tGs (X : Cx) (tgs : List Expr) : TGs := fun vs σ H Q => ∀ (pins : List (Addr × Obj)) (s : Shared) (us : List Value), Inv X pins σ H s → Vals vs us → wpAny (model X.prog X.w) X.A (assignInOrder ((assignEach tgs X.env).map (·.2)) us) (fun _ s' => ∃ σ' H', Inv X pins σ' H' s' ∧ Q σ' H') X.xe s
theorem pgsG {X : Cx} {tgs : List Expr} : PGs X tgs (tGs X tgs) := ⟨fun pins s _ _ _ us _ I r h => h pins s us I r⟩
theorem toGs {X : Cx} {tgs : List Expr} {g : TGs} (p : PGs X tgs g) {vs : List V} {σ : L2.St} {H : Hp} {Q : L2.St → Hp → Prop} (h : g vs σ H Q) : tGs X tgs vs σ H Q := fun pins s us I r => p.run pins s σ H vs us Q I r h
/-- r is stored to tg: the state is E' -/
def WG (X : Cx) (tg : Expr) (r : En) (E E' : Env) : Prop := ∀ bd σ H v, Good X.K bd σ H E → EnOk X.K (stab bd.Oc H E.O) r v → ∀ Q, (∀ σ' H', Good X.K bd σ' H' E' → Ext (stab bd.Oc H E.O) (stab bd.Oc H' E'.O) → Q σ' H') → tG X tg v σ H Q
def WGs (X : Cx) (tgs : List Expr) (rs : List En) (E E' : Env) : Prop := ∀ bd σ H vs, Good X.K bd σ H E → EnsOk X.K (stab bd.Oc H E.O) rs vs → ∀ Q, (∀ σ' H', Good X.K bd σ' H' E' → Ext (stab bd.Oc H E.O) (stab bd.Oc H' E'.O) → Q σ' H') → tGs X tgs vs σ H Q
section
variable {X : Cx} {E1 E2 : Env} {G : List (Option En)} {O : List OE} {r : En} {rs : List En} {x : Str} {pos : Pos} {tg : Expr} {tgs : List Expr}
theorem wg_name (i : Nat) (hN : X.N.Nodup) (hi : X.N[i]? = some x := by rfl) (hx : Loc X.env.scope x := by first | exact Or.inl rfl | exact Or.inr rfl) (hf : X.fn x = true ∨ X.env.scope.names.lookup x = some .local := by first | exact .inl rfl | exact .inr rfl) : WG X (.Name x pos) r ⟨G, O⟩ ⟨G.set i (some r), O⟩ :=
  fun bd σ H v g ok Q k => toG (pg_name hN hi hx hf) (k _ H (g.set i ok) (Ext.refl _))
theorem wgs_nil : WGs X [] [] ⟨G, O⟩ ⟨G, O⟩ := fun bd σ H vs g ok Q k => by
  have e : vs = [] := ok
  subst e
  exact toGs pgs_nil ⟨rfl, k σ H g (Ext.refl _)⟩
theorem wgs_cons (h1 : WG X tg r ⟨G, O⟩ E1) (h2 : WGs X tgs rs E1 E2) (hs : (assignEach (tg :: tgs) X.env).map (·.2) = assign tg X.env :: (assignEach tgs X.env).map (·.2) := by rfl) : WGs X (tg :: tgs) (r :: rs) ⟨G, O⟩ E2 := fun bd σ H vs g ⟨v, t, e, ok1, ok2⟩ Q k => by
  subst e
  exact toGs (pgs_cons pgG pgsG hs) ⟨v, t, rfl, h1 bd σ H v g ok1 _ fun σ1 H1 g1 x1 => h2 bd σ1 H1 t g1 (ok2.mono x1) Q fun σ2 H2 g2 x2 => k σ2 H2 g2 (x1.trans x2)⟩
theorem wg_tup {ds : List D} {k n : Nat} (h0 : WGs X tgs rs ⟨G, O⟩ E1) (hm : ds.map .d = rs := by rfl) (hc : X.calm = true := by rfl) (hn : (assignEach tgs X.env).length = n := by rfl) (hst : (assignEach tgs X.env).findIdx? (·.1) = none := by rfl) (hl : ds.length = n := by rfl) : WG X (.Tuple tgs k pos) (.d (.tup ds)) ⟨G, O⟩ E1 :=
  fun bd σ H v g ⟨a, vs, e, h1, h2⟩ Q q => toG (pg_tup hc pgsG hn hst) ⟨a, vs, e, h1.up, by rw [h2.length, hl], h0 bd σ H vs g (by rw [← hm]; exact EnsOk.of_reps h2) Q q⟩
end

/-! ### what is walked -/
def tI (X : Cx) (tg iter : Expr) : TI := fun σ H R => ∀ (pins : List (Addr × Obj)) (s : Shared), Inv X pins σ H s → wpAny (model X.prog X.w) X.A (eval iter X.env) (fun v s1 => wpAny (model X.prog X.w) X.A (pyIter v) (PIE X pins σ tg R) X.xe s1) X.xe s
theorem piI {X : Cx} {tg iter : Expr} : PI X tg iter (tI X tg iter) := ⟨fun pins s _ _ _ I h => h pins s I⟩
theorem toI {X : Cx} {tg iter : Expr} {w : TI} (p : PI X tg iter w) {σ : L2.St} {H : Hp} {R : It → Hp → Prop} (h : w σ H R) : tI X tg iter σ H R := fun pins s I => p.run pins s σ H R I h
/-- n turns, the k-th gives f k; S1: data that must stand; C: what must hold of the owned things -/
structure ItOk (K : PySem.W.Frag) (J : It) (n : Nat) (f : Nat → En) (S1 : Hp) (C : List OE → Prop) : Prop where
  go : ∀ k bd σ H G O, k < n → Good K bd σ H ⟨G, O⟩ → Ext S1 (stab bd.Oc H O) → C O → J.go k H
  stop : ∀ bd σ H G O, Good K bd σ H ⟨G, O⟩ → Ext S1 (stab bd.Oc H O) → C O → J.stop n H
  yld : ∀ k bd σ H G O x H', k < n → Good K bd σ H ⟨G, O⟩ → Ext S1 (stab bd.Oc H O) → C O → J.yld k H x H' → Good K bd σ H' ⟨G, O⟩ ∧ Ext (stab bd.Oc H O) (stab bd.Oc H' O) ∧ EnOk K (stab bd.Oc H' O) (f k) x
def IW (X : Cx) (tg iter : Expr) (E : Env) (n : Nat) (f : Nat → En) (O1 : List OE) (C : List OE → Prop) : Prop := ∀ bd σ H, Good X.K bd σ H E → ∀ R : It → Hp → Prop,
  (∀ J H1, Good X.K bd σ H1 ⟨E.G, O1⟩ → Ext (stab bd.Oc H E.O) (stab bd.Oc H1 O1) → ItOk X.K J n f (stab bd.Oc H1 O1) C → R J H1) → tI X tg iter σ H R
section
variable {X : Cx} {tg e : Expr} {G : List (Option En)} {O : List OE} {O1 O2 : List OE} {pos p : Pos}
/-- a list that stands still -/
theorem iw_list {ds : List D} (h : EV X e ⟨G, O⟩ (.d (.lst ds)) O1) : IW X tg e ⟨G, O⟩ ds.length (fun k => .d (ds.getD k .non)) O1 (fun _ => True) := fun bd σ H g R q =>
  toI (pi_list peE) (h.use g fun v H1 g1 x1 ⟨a, vs, e1, e2, e3⟩ => by
    have hs : ∀ (bd' : Bd) (σ' : L2.St) (H' : Hp) (G' : List (Option En)) (O' : List OE), Good X.K bd' σ' H' ⟨G', O'⟩ → Ext (stab bd.Oc H1 O1) (stab bd'.Oc H' O') → SqL X.K H' a vs ∧ H' a = some (.lst vs) ∧ Reps X.K (stab bd'.Oc H' O') ds vs := fun bd' σ' H' G' O' g' x' => by
      have e4 := x'.at_ a (.lst vs) trivial e2
      exact ⟨SqL.of (stab_at e4), stab_at e4, Reps.mono x' e3⟩
    refine ⟨a, e1, ⟨vs, SqL.of (stab_at e2)⟩, q _ H1 g1 x1 ⟨fun k bd' σ' H' G' O' hk g' x' _ => ?_, fun bd' σ' H' G' O' g' x' _ => ?_, fun k bd' σ' H' G' O' x H'' hk g' x' _ y => ?_⟩⟩
    · obtain ⟨h1, _, _⟩ := hs bd' σ' H' G' O' g' x'
      exact ⟨vs, vs[k]'(by rw [e3.length]; exact hk), h1, by simp [e3.length, hk]⟩
    · obtain ⟨h1, _, _⟩ := hs bd' σ' H' G' O' g' x'
      exact ⟨vs, h1, by rw [e3.length]; exact Nat.le_refl _⟩
    · obtain ⟨h1, _, h3⟩ := hs bd' σ' H' G' O' g' x'
      obtain ⟨rfl, y⟩ := y
      obtain ⟨d, e5, e6⟩ := h3.getV (y vs h1)
      refine ⟨g', Ext.refl _, ?_⟩
      have e7 : ds.getD k .non = d := by rw [List.getD_eq_getElem?_getD, e5] <;> rfl
      show Rep X.K _ (ds.getD k .non) x
      rw [e7]
      exact e6)
/-- a list of ours, that no turn changes -/
theorem iw_own {a : Addr} {xs : List En} (h : EV X e ⟨G, O⟩ (.raw (.ref a)) O1) (hm : (a, .lst xs) ∈ O1) : IW X tg e ⟨G, O⟩ xs.length (fun k => xs.getD k (.d .non)) O1 (fun O => (a, .lst xs) ∈ O) := fun bd σ H g R q =>
  toI (pi_list peE) (h.use g fun v H1 g1 x1 e1 => by
    have hs : ∀ (bd' : Bd) (σ' : L2.St) (H' : Hp) (G' : List (Option En)) (O' : List OE), Good X.K bd' σ' H' ⟨G', O'⟩ → (a, OO.lst xs) ∈ O' → ∃ vs, H' a = some (.lst vs) ∧ EnsOk X.K (stab bd'.Oc H' O') xs vs := fun bd' σ' H' G' O' g' m' => by
      obtain ⟨u, h1, vs, rfl, h2⟩ := g'.objs _ m'
      exact ⟨vs, h1, h2⟩
    obtain ⟨vs, h1, h2⟩ := hs _ _ _ _ _ g1 hm
    refine ⟨a, e1, ⟨vs, SqL.of h1⟩, q _ H1 g1 x1 ⟨fun k bd' σ' H' G' O' hk g' x' m' => ?_, fun bd' σ' H' G' O' g' x' m' => ?_, fun k bd' σ' H' G' O' x H'' hk g' x' m' y => ?_⟩⟩
    · obtain ⟨vs, h1, h2⟩ := hs _ _ _ _ _ g' m'
      exact ⟨vs, vs[k]'(by rw [h2.length]; exact hk), SqL.of h1, by simp [h2.length, hk]⟩
    · obtain ⟨vs, h1, h2⟩ := hs _ _ _ _ _ g' m'
      exact ⟨vs, SqL.of h1, by rw [h2.length]; exact Nat.le_refl _⟩
    · obtain ⟨vs, h1, h2⟩ := hs _ _ _ _ _ g' m'
      obtain ⟨rfl, y⟩ := y
      obtain ⟨d, e5, e6⟩ := h2.getV (y vs (SqL.of h1))
      refine ⟨g', Ext.refl _, ?_⟩
      have e7 : xs.getD k (.d .non) = d := by rw [List.getD_eq_getElem?_getD, e5] <;> rfl
      show EnOk X.K _ (xs.getD k (.d .non)) x
      rw [e7]
      exact e6)
theorem iw_tup {ds : List D} (h : EV X e ⟨G, O⟩ (.d (.tup ds)) O1) : IW X tg e ⟨G, O⟩ ds.length (fun k => .d (ds.getD k .non)) O1 (fun _ => True) := fun bd σ H g R q =>
  toI (pi_tup peE) (h.use g fun v H1 g1 x1 ⟨a, vs, e1, e2, e3⟩ => by
    have hs : ∀ (bd' : Bd) (σ' : L2.St) (H' : Hp) (G' : List (Option En)) (O' : List OE), Good X.K bd' σ' H' ⟨G', O'⟩ → Ext (stab bd.Oc H1 O1) (stab bd'.Oc H' O') → SqT X.K H' a vs ∧ Reps X.K (stab bd'.Oc H' O') ds vs := fun bd' σ' H' G' O' g' x' =>
      ⟨(x'.tup e2).up, Reps.mono x' e3⟩
    refine ⟨a, e1, ⟨vs, e2.up⟩, q _ H1 g1 x1 ⟨fun k bd' σ' H' G' O' hk g' x' _ => ?_, fun bd' σ' H' G' O' g' x' _ => ?_, fun k bd' σ' H' G' O' x H'' hk g' x' _ y => ?_⟩⟩
    · obtain ⟨h1, _⟩ := hs bd' σ' H' G' O' g' x'
      exact ⟨vs, vs[k]'(by rw [e3.length]; exact hk), h1, by simp [e3.length, hk]⟩
    · obtain ⟨h1, _⟩ := hs bd' σ' H' G' O' g' x'
      exact ⟨vs, h1, by rw [e3.length]; exact Nat.le_refl _⟩
    · obtain ⟨h1, h3⟩ := hs bd' σ' H' G' O' g' x'
      obtain ⟨rfl, y⟩ := y
      obtain ⟨d, e5, e6⟩ := h3.getV (y vs h1)
      refine ⟨g', Ext.refl _, ?_⟩
      have e7 : ds.getD k .non = d := by rw [List.getD_eq_getElem?_getD, e5] <;> rfl
      show Rep X.K _ (ds.getD k .non) x
      rw [e7]
      exact e6)
theorem it_range {K : PySem.W.Frag} {lo : Int} {n : Nat} {S1 : Hp} {C : List OE → Prop} : ItOk K (Itr lo n) n (fun k => .d (.int (lo + k))) S1 C :=
  ⟨fun _ _ _ _ _ _ hk _ _ _ => hk, fun _ _ _ _ _ _ _ _ => Nat.le_refl _, fun k _ _ _ _ _ x H' _ g _ _ ⟨e1, e2⟩ => by
    subst e1 e2
    exact ⟨g, Ext.refl _, rfl⟩⟩
theorem iw_range {j : Int} (hm : X.mg "range" = none) (h : EV X e ⟨G, O⟩ (.d (.int j)) O1) (h1 : -(2 ^ 62) ≤ j) (h2 : j < 2 ^ 62) (hg : Gl X "range" := by rfl) (hs : starEach [e] X.env = [(false, eval e X.env)] := by rfl) :
    IW X tg (.Call (.Name "range" p) [e] [] pos) ⟨G, O⟩ j.toNat (fun k => .d (.int k)) O1 (fun _ => True) := fun bd σ H g R q =>
  toI (pi_range1 hg hm paA hs) ((ea_cons h ea_nil hs) bd σ H g _ fun vs H1 g1 x1 ok => by
    obtain ⟨v, r, e1, e2, e3⟩ := ok
    have e2 : v = .int j := e2
    have e3 : r = [] := e3
    subst e1 e2 e3
    refine ⟨j, rfl, h1, h2, q _ H1 g1 x1 ?_⟩
    have := it_range (K := X.K) (lo := 0) (n := j.toNat) (S1 := stab bd.Oc H1 O1) (C := fun _ => True)
    refine ⟨this.go, this.stop, fun k bd' σ' H' G' O' x H'' hk g' x' c y => ?_⟩
    have := this.yld k bd' σ' H' G' O' x H'' hk g' x' c y
    rw [Int.zero_add] at this
    exact this)
theorem iw_range2 {e' : Expr} {i j : Int} (hm : X.mg "range" = none) (h : EV X e ⟨G, O⟩ (.d (.int i)) O1) (h' : EV X e' ⟨G, O1⟩ (.d (.int j)) O2) (hb : -(2 ^ 62) ≤ i ∧ i < 2 ^ 62 ∧ -(2 ^ 62) ≤ j ∧ j < 2 ^ 62) (hg : Gl X "range" := by rfl) (hs : starEach [e, e'] X.env = [(false, eval e X.env), (false, eval e' X.env)] := by rfl)
    (hs2 : starEach [e'] X.env = [(false, eval e' X.env)] := by rfl) :
    IW X tg (.Call (.Name "range" p) [e, e'] [] pos) ⟨G, O⟩ (j - i).toNat (fun k => .d (.int (i + k))) O2 (fun _ => True) := fun bd σ H g R q =>
  toI (pi_range2 hg hm paA hs hs2) ((ea_cons h (ea_cons h' ea_nil hs2) (by rw [hs, hs2])) bd σ H g _ fun vs H1 g1 x1 ok => by
    obtain ⟨v, r, e1, e2, v2, r2, e3, e4, e5⟩ := ok
    have e2 : v = .int i := e2
    have e4 : v2 = .int j := e4
    have e5 : r2 = [] := e5
    subst e1 e2 e3 e4 e5
    exact ⟨i, j, rfl, hb, q _ H1 g1 x1 it_range⟩)
theorem iw_str {x : Str} (h : EV X e ⟨G, O⟩ (.d (.str x)) O1) : IW X tg e ⟨G, O⟩ x.cps.size (fun k => .d (.str ⟨#[x.cps.getD k 0]⟩)) O1 (fun _ => True) := fun bd σ H g R q =>
  toI (pi_str peE) (h.use g fun v H1 g1 x1 e1 => ⟨x, e1, q _ H1 g1 x1 ⟨fun k _ _ _ _ _ hk _ _ _ => hk, fun _ _ _ _ _ _ _ _ => Nat.le_refl _, fun k bd' σ' H' G' O' y H'' hk g' x' _ ⟨e2, c, e3, e4⟩ => by
    subst e2 e4
    refine ⟨g', Ext.refl _, ?_⟩
    show V.str ⟨#[c]⟩ = .str ⟨#[x.cps.getD k 0]⟩
    have e5 : x.cps.getD k 0 = c := by rw [Array.getD_eq_getD_getElem?, e3] <;> rfl
    rw [e5]⟩⟩)
theorem iw_enum {ds : List D} {elts : List Expr} {kk : Nat} {tpos : Pos} (hm : X.mg "enumerate" = none) (h : EV X e ⟨G, O⟩ (.d (.lst ds)) O1) (hg : Gl X "enumerate" := by rfl) (hs : starEach [e] X.env = [(false, eval e X.env)] := by rfl) :
    IW X (.Tuple elts kk tpos) (.Call (.Name "enumerate" p) [e] [] pos) ⟨G, O⟩ ds.length (fun k => .d (.tup [.int k, ds.getD k .non])) O1 (fun _ => True) := fun bd σ H g R q =>
  toI (pi_enum hg hm paA hs) ((ea_cons h ea_nil hs) bd σ H g _ fun vs0 H1 g1 x1 ok => by
    obtain ⟨v, r, e1, ⟨a, vs, rfl, e2, e3⟩, e4⟩ := ok
    have e4 : r = [] := e4
    subst e1 e4
    have hq : ∀ (bd' : Bd) (σ' : L2.St) (H' : Hp) (G' : List (Option En)) (O' : List OE), Good X.K bd' σ' H' ⟨G', O'⟩ → Ext (stab bd.Oc H1 O1) (stab bd'.Oc H' O') → SqL X.K H' a vs ∧ Reps X.K (stab bd'.Oc H' O') ds vs := fun bd' σ' H' G' O' g' x' =>
      ⟨SqL.of (stab_at (x'.at_ a (.lst vs) trivial e2)), Reps.mono x' e3⟩
    refine ⟨a, vs, rfl, SqL.of (stab_at e2), q _ H1 g1 x1 ⟨fun k bd' σ' H' G' O' hk g' x' _ => ?_, fun bd' σ' H' G' O' g' x' _ => ?_, fun k bd' σ' H' G' O' x H'' hk g' x' _ y => ?_⟩⟩
    · exact ⟨vs, vs[k]'(by rw [e3.length]; exact hk), (hq _ _ _ _ _ g' x').1, by simp [e3.length, hk]⟩
    · exact ⟨vs, (hq _ _ _ _ _ g' x').1, by rw [e3.length]; exact Nat.le_refl _⟩
    · obtain ⟨h1, h3⟩ := hq _ _ _ _ _ g' x'
      obtain ⟨T, z, rfl, hT, rfl, hz⟩ := y
      obtain ⟨d, e5, e6⟩ := h3.getV (hz vs h1)
      have e7 : ds.getD k .non = d := by rw [List.getD_eq_getElem?_getD, e5] <;> rfl
      obtain ⟨g2, x2, rp⟩ := g'.newTup (ds := [.int k, ds.getD k .non]) hT ⟨.int k, [z], rfl, rfl, z, [], rfl, by rw [e7]; exact e6, rfl⟩
      exact ⟨g2, x2, rp⟩)
end

/-! ### a for -/
section
variable {X : Cx} {tg iter : Expr} {body : List Stmt} {nx : Env → Prop} {rt : En → List OE → Prop} {bk ct : Env → Prop} {ex : Addr → List (Str × D) → Env → Prop} {G : List (Option En)} {O : List OE} {O1 : List OE} {n : Nat} {f : Nat → En} {C : List OE → Prop} {pos : Pos}
theorem Cont.relow {bd : Bd} {D : Ends} {S1 : Hp} (c : Cont X bd ⟨nx, rt, bk, ct, ex⟩ D) (h : Ext bd.S S1) : Cont X ⟨bd.Oc, bd.B, S1⟩ ⟨nx, rt, bk, ct, ex⟩ D :=
  ⟨fun σ H E g p => c.nx σ H E (g.relow (h.trans g.low)) p, fun v H r O g p => c.rt v H r O (g.relow (h.trans g.low)) p, fun σ H E g p => c.bk σ H E (g.relow (h.trans g.low)) p, fun σ H E g p => c.ct σ H E (g.relow (h.trans g.low)) p,
    c.ex.imp fun cls d σ H ⟨E, C, fs, g, x, p⟩ => ⟨E, C, fs, g.relow (h.trans g.low), x, p⟩⟩
theorem ws_for (hi : IW X tg iter ⟨G, O⟩ n f O1 C) (I : Nat → Env → Prop) (h0 : I 0 ⟨G, O1⟩) (hC : ∀ k E', k ≤ n → I k E' → C E'.O) (hp : PassesOwn (model X.prog X.w) X.A X.env X.xe)
    (hs : ∀ k G O, k < n → I k ⟨G, O⟩ → ∃ G2 O2, WG X tg (f k) ⟨G, O⟩ ⟨G2, O2⟩ ∧ WSs X body ⟨I (k + 1), rt, nx, I (k + 1), ex⟩ ⟨G2, O2⟩) (hd : ∀ E', I n E' → nx E') (hc : X.calm = true := by rfl)
    (hf : ∀ x, foldedSetIterable iter X.env x = pure x := by intro _; rfl) : WS X (.For tg iter body [] pos) ⟨nx, rt, bk, ct, ex⟩ ⟨G, O⟩ := fun bd σ H g D k =>
  toS (ps_for hp hc piI pgG pssS hf) (hi bd σ H g _ fun J H1 g1 x1 it => by
    have k1 : Cont X ⟨bd.Oc, bd.B, stab bd.Oc H1 O1⟩ ⟨nx, rt, bk, ct, ex⟩ D := k.relow g1.low
    refine ⟨fun i m σ' H' => m = n - i ∧ i ≤ n ∧ ∃ E', Good X.K ⟨bd.Oc, bd.B, stab bd.Oc H1 O1⟩ σ' H' E' ∧ I i E', ⟨n, by simp, Nat.zero_le _, _, g1.relow (Ext.refl _), h0⟩, ?_⟩
    rintro i m σ' H' ⟨rfl, hin, E', g', hI⟩
    by_cases hlt : i < n
    · refine .inr ⟨it.go i _ σ' H' E'.G E'.O hlt g' g'.low (hC i E' hin hI), fun σ2 H2 => ∃ E2, Good X.K ⟨bd.Oc, bd.B, stab bd.Oc H1 O1⟩ σ2 H2 E2 ∧ I (i + 1) E2, fun σ2 H2 ⟨E2, g2, h2⟩ => ⟨n - (i + 1), by omega, rfl, hlt, E2, g2, h2⟩, fun x H2 y => ?_⟩
      obtain ⟨g2, x2, ok⟩ := it.yld i _ σ' H' E'.G E'.O x H2 hlt g' g'.low (hC i E' hin hI) y
      obtain ⟨G2, O2, hw, hb⟩ := hs i E'.G E'.O hlt hI
      refine hw _ σ' H2 x g2 ok _ fun σ3 H3 g3 x3 => ?_
      exact hb _ σ3 H3 g3 _ ⟨fun σ4 H4 E4 g4 p4 => ⟨E4, g4, p4⟩, k1.rt, k1.nx, fun σ4 H4 E4 g4 p4 => ⟨E4, g4, p4⟩, k1.ex⟩
    · have e : i = n := by omega
      subst e
      exact .inl ⟨it.stop _ σ' H' E'.G E'.O g' g'.low (hC i E' hin hI), k1.nx σ' H' E' g' (hd E' hI)⟩)
end
end Lx

/-! Lx, part F: comprehensions. -/
namespace Lx
open PySem PySem.Spec PyProof.Rows L2

def wipeG (G : List (Option En)) : List Nat → List (Option En)
  | [] => G
  | v :: vs => (wipeG G vs).set v none
theorem Slots.none_at {K : PySem.W.Frag} {S : Hp} : ∀ {gs : List (Option En)} {σ : L2.St} (i : Nat), Slots K S gs σ → Slots K S (gs.set i none) (σ.set i none)
  | [], σ, i, h => by
    have e : σ = [] := h
    subst e
    simp [Slots]
  | _ :: _, _, 0, ⟨v, r, h1, h2, h3⟩ => by
    subst h1
    exact ⟨none, r, rfl, trivial, h3⟩
  | _ :: _, _, i + 1, ⟨v, r, h1, h2, h3⟩ => by
    subst h1
    exact ⟨v, r.set i none, rfl, h2, Slots.none_at i h3⟩
theorem Slots.wipe {K : PySem.W.Frag} {S : Hp} {G : List (Option En)} {σ : L2.St} (h : Slots K S G σ) : ∀ vs : List Nat, Slots K S (wipeG G vs) (L2.wipe σ vs)
  | [] => h
  | v :: vs => (Slots.wipe h vs).none_at v
theorem wipe_at (σ : L2.St) (i : Nat) : ∀ vs : List Nat, (L2.wipe σ vs)[i]? = if i ∈ vs then (σ[i]?).map fun _ => none else σ[i]?
  | [] => by simp [L2.wipe]
  | v :: vs => by
    show ((L2.wipe σ vs).set v none)[i]? = _
    by_cases e : v = i
    · subst e
      rw [if_pos List.mem_cons_self]
      by_cases hl : v < σ.length
      · rw [List.getElem?_set_self (by rw [wipe_length]; exact hl), List.getElem?_eq_getElem hl]
        rfl
      · rw [List.getElem?_eq_none (by rw [List.length_set, wipe_length]; omega), List.getElem?_eq_none (by omega)]
        rfl
    · rw [List.getElem?_set_ne e, wipe_at σ i vs]
      by_cases h : i ∈ vs
      · rw [if_pos h, if_pos (List.mem_cons_of_mem _ h)]
      · rw [if_neg h, if_neg fun z => ?_]
        rcases List.mem_cons.mp z with z | z
        · exact e z.symm
        · exact h z
theorem wipe_of {σ τ : L2.St} {vs : List Nat} (hl : τ.length = (L2.wipe σ vs).length) (h : ∀ i, i ∉ vs → τ[i]? = (L2.wipe σ vs)[i]?) : L2.wipe τ vs = L2.wipe σ vs := by
  refine List.ext_getElem? fun i => ?_
  rw [wipe_at]
  by_cases m : i ∈ vs
  · rw [if_pos m, wipe_at, if_pos m]
    have e : τ.length = σ.length := by rw [hl, wipe_length]
    by_cases hi : i < σ.length
    · rw [List.getElem?_eq_getElem hi, List.getElem?_eq_getElem (by omega)]
      rfl
    · rw [List.getElem?_eq_none (by omega), List.getElem?_eq_none (by omega)]
  · rw [if_neg m]
    exact h i m

/-- a target that stores to these slots alone -/
def WGN (X : Cx) (tg : Expr) (r : En) (is : List Nat) (E E' : Env) : Prop := ∀ bd σ H v, Good X.K bd σ H E → EnOk X.K (stab bd.Oc H E.O) r v → ∀ Q, (∀ σ', σ'.length = σ.length → (∀ i, i ∉ is → σ'[i]? = σ[i]?) → Good X.K bd σ' H E' → Q σ' H) → E'.O = E.O → tG X tg v σ H Q
def WGNs (X : Cx) (tgs : List Expr) (rs : List En) (is : List Nat) (E E' : Env) : Prop := ∀ bd σ H vs, Good X.K bd σ H E → EnsOk X.K (stab bd.Oc H E.O) rs vs → ∀ Q, (∀ σ', σ'.length = σ.length → (∀ i, i ∉ is → σ'[i]? = σ[i]?) → Good X.K bd σ' H E' → Q σ' H) → E'.O = E.O → tGs X tgs vs σ H Q
section
variable {X : Cx} {G : List (Option En)} {O : List OE} {E1 E2 : Env} {r : En} {rs : List En} {x : Str} {pos : Pos} {tg : Expr} {tgs : List Expr} {is : List Nat}
theorem wgn_name (i : Nat) (hN : X.N.Nodup) (hm : i ∈ is := by decide) (hi : X.N[i]? = some x := by rfl) (hx : Loc X.env.scope x := by first | exact Or.inl rfl | exact Or.inr rfl) (hf : X.fn x = true ∨ X.env.scope.names.lookup x = some .local := by first | exact .inl rfl | exact .inr rfl) : WGN X (.Name x pos) r is ⟨G, O⟩ ⟨G.set i (some r), O⟩ :=
  fun bd σ H v g ok Q k _ => toG (pg_name hN hi hx hf) (k _ (by rw [List.length_set]) (fun j hj => List.getElem?_set_ne fun e => hj (by rw [← e]; exact hm)) (g.set i ok))
theorem wgns_nil : WGNs X [] [] is ⟨G, O⟩ ⟨G, O⟩ := fun bd σ H vs g ok Q k _ => by
  have e : vs = [] := ok
  subst e
  exact toGs pgs_nil ⟨rfl, k σ rfl (fun _ _ => rfl) g⟩
theorem wgns_cons {G1 G2 : List (Option En)} (h1 : WGN X tg r is ⟨G, O⟩ ⟨G1, O⟩) (h2 : WGNs X tgs rs is ⟨G1, O⟩ ⟨G2, O⟩) (hs : (assignEach (tg :: tgs) X.env).map (·.2) = assign tg X.env :: (assignEach tgs X.env).map (·.2) := by rfl) : WGNs X (tg :: tgs) (r :: rs) is ⟨G, O⟩ ⟨G2, O⟩ := fun bd σ H vs g ⟨v, t, e, ok1, ok2⟩ Q k _ => by
  subst e
  exact toGs (pgs_cons pgG pgsG hs) ⟨v, t, rfl, h1 bd σ H v g ok1 _ (fun σ1 l1 u1 g1 => h2 bd σ1 H t g1 ok2 Q (fun σ2 l2 u2 g2 => k σ2 (l2.trans l1) (fun i hi => (u2 i hi).trans (u1 i hi)) g2) rfl) rfl⟩
theorem wgn_tup {G2 : List (Option En)} {ds : List D} {k n : Nat} (h0 : WGNs X tgs rs is ⟨G, O⟩ ⟨G2, O⟩) (hm : ds.map .d = rs := by rfl) (hc : X.calm = true := by rfl) (hn : (assignEach tgs X.env).length = n := by rfl) (hst : (assignEach tgs X.env).findIdx? (·.1) = none := by rfl) (hl : ds.length = n := by rfl) : WGN X (.Tuple tgs k pos) (.d (.tup ds)) is ⟨G, O⟩ ⟨G2, O⟩ :=
  fun bd σ H v g ⟨a, vs, e, h1, h2⟩ Q q z => toG (pg_tup hc pgsG hn hst) ⟨a, vs, e, h1.up, by rw [h2.length, hl], h0 bd σ H vs g (by rw [← hm]; exact EnsOk.of_reps h2) Q q z⟩
end
/-! ### tests of a comprehension -/
def tP (X : Cx) (ifs : List Expr) : TT := fun σ H Q => ∀ (pins : List (Addr × Obj)) (s : Shared), Inv X pins σ H s →
    wpAny (model X.prog X.w) X.A (forIn ifs true fun c r => if r = true then do let ok ← isTrue c X.env (eval c X.env); pure (ForInStep.yield ok) else pure (ForInStep.yield r)) (TP X pins σ Q) X.xe s
theorem toP {X : Cx} {ifs : List Expr} {t : TT} (p : PTs X ifs t) {σ : L2.St} {H : Hp} {Q : Bool → Hp → Prop} (h : t σ H Q) : tP X ifs σ H Q := fun pins s I => p.run pins s σ H Q I h
def ETs (X : Cx) (ifs : List Expr) (E : Env) (b : Bool) (O' : List OE) : Prop := ∀ bd σ H, Good X.K bd σ H E → ∀ Q : Bool → Hp → Prop,
  (∀ H', Good X.K bd σ H' ⟨E.G, O'⟩ → Ext (stab bd.Oc H E.O) (stab bd.Oc H' O') → Q b H') → tP X ifs σ H Q
theorem ets_nil {X : Cx} {G : List (Option En)} {O : List OE} : ETs X [] ⟨G, O⟩ true O := fun bd σ H g Q k => toP pts_nil (k H g (Ext.refl _))
theorem ets_one {X : Cx} {G : List (Option En)} {O : List OE} {c : Expr} {b : Bool} {O' : List OE} (h : ET X c ⟨G, O⟩ b O') : ETs X [c] ⟨G, O⟩ b O' := fun bd σ H g Q k => toP (pts_one ptT) (h bd σ H g Q k)
theorem ETs.frame {X : Cx} {G : List (Option En)} {O O' : List OE} {ifs : List Expr} {c : Bool} (h : ETs X ifs ⟨G, O⟩ c O') (q : OE) : ETs X ifs ⟨G, q :: O⟩ c (q :: O') := fun bd σ H g Q k => by
  obtain ⟨p, o⟩ := q
  obtain ⟨u, hu, _⟩ := g.obj (j := 0) rfl
  refine h (frB bd H p u) σ H (g.fr hu) Q fun H' g' x => ?_
  have x' : Ext (stab bd.Oc H ((p, o) :: O)) (stab bd.Oc H' ((p, o) :: O')) := by
    rw [← stab_fr (q := (p, o)), ← stab_fr (q := (p, o))]
    exact x
  exact k H' (g.unfr hu g' x') x'

/-! ### the comprehension -/
abbrev Blk (X : Cx) (scope : Scope) (s : Shared) (H : Hp) (C : Addr) (cl : List (Str × Addr)) (fp : List Addr) : Cx := X.blk s H scope (compEnvC scope cl C X.env) fp
section
variable {X : Cx} {elt tg iter : Expr} {ifs : List Expr} {scope : Scope} {own' : List (Str × Nat)} {pos : Pos} {G : List (Option En)} {O : List OE} {O1 : List OE} {n : Nat} {f : Nat → En} {C : List OE → Prop}
def gB (X : Cx) (scope : Scope) (tg : Expr) : TG := fun v σ H Q => ∀ s H0 C cl fp, tG (Blk X scope s H0 C cl fp) tg v σ H Q
def pB (X : Cx) (scope : Scope) (ifs : List Expr) : TT := fun σ H Q => ∀ s H0 C cl fp, tP (Blk X scope s H0 C cl fp) ifs σ H Q
def eB (X : Cx) (scope : Scope) (elt : Expr) : TE := fun σ H Q => ∀ s H0 C cl fp, tE (Blk X scope s H0 C cl fp) elt σ H Q
theorem pg_B (s : Shared) (H : Hp) (C : Addr) (cl : List (Str × Addr)) (fp : List Addr) : PG (Blk X scope s H C cl fp) tg (gB X scope tg) := ⟨fun pins t _ _ _ u _ I r h => h s H C cl fp pins t u I r⟩
theorem pt_B (s : Shared) (H : Hp) (C : Addr) (cl : List (Str × Addr)) (fp : List Addr) : PTs (Blk X scope s H C cl fp) ifs (pB X scope ifs) := ⟨fun pins t _ _ _ I h => h s H C cl fp pins t I⟩
theorem pe_B (s : Shared) (H : Hp) (C : Addr) (cl : List (Str × Addr)) (fp : List Addr) : PE (Blk X scope s H C cl fp) elt (eB X scope elt) := ⟨fun pins t _ _ _ I h => h s H C cl fp pins t I⟩
/-- what a turn does -/
structure LcTurn (X : Cx) (scope : Scope) (elt tg : Expr) (ifs : List Expr) (vs : List Nat) (r : En) (G : List (Option En)) (Oa Ob : List OE) (b : Bool) (x : En) : Prop where
  ex : ∃ G2 Om, (∀ s H C cl fp, WGN (Blk X scope s H C cl fp) tg r vs ⟨wipeG G vs, Oa⟩ ⟨G2, Oa⟩) ∧ (∀ s H C cl fp, ETs (Blk X scope s H C cl fp) ifs ⟨G2, Oa⟩ b Om) ∧
    (b = true → ∀ s H C cl fp, EV (Blk X scope s H C cl fp) elt ⟨G2, Om⟩ x Ob) ∧ (b = false → Ob = Om)
theorem lcturn {vs : List Nat} {r : En} {G : List (Option En)} {Oa Ob : List OE} {b : Bool} {x : En} (G2 : List (Option En)) (Om : List OE) (h1 : ∀ s H C cl fp, WGN (Blk X scope s H C cl fp) tg r vs ⟨wipeG G vs, Oa⟩ ⟨G2, Oa⟩)
    (h2 : ∀ s H C cl fp, ETs (Blk X scope s H C cl fp) ifs ⟨G2, Oa⟩ b Om) (h3 : b = true → ∀ s H C cl fp, EV (Blk X scope s H C cl fp) elt ⟨G2, Om⟩ x Ob) (h4 : b = false → Ob = Om) : LcTurn X scope elt tg ifs vs r G Oa Ob b x := ⟨G2, Om, h1, h2, h3, h4⟩
def lcAcc (bs : Nat → Bool) (gs : Nat → En) (n : Nat) : List En := ((List.range n).filter bs).map gs
theorem lcAcc_succ (bs : Nat → Bool) (gs : Nat → En) (n : Nat) : lcAcc bs gs (n + 1) = if bs n = true then lcAcc bs gs n ++ [gs n] else lcAcc bs gs n := by
  unfold lcAcc
  rw [List.range_succ, List.filter_append, List.map_append]
  cases e : bs n with
  | true => simp [e]
  | false => simp [e]
theorem lcAcc_len (bs : Nat → Bool) (gs : Nat → En) (n : Nat) : (lcAcc bs gs n).length ≤ n := by
  unfold lcAcc
  rw [List.length_map]
  exact Nat.le_trans (List.length_filter_le _ _) (by rw [List.length_range]; exact Nat.le_refl _)
theorem frame_WGN {X : Cx} {tg : Expr} {r : En} {vs : List Nat} {G G2 : List (Option En)} {O : List OE} (h : WGN X tg r vs ⟨G, O⟩ ⟨G2, O⟩) (q : OE) : WGN X tg r vs ⟨G, q :: O⟩ ⟨G2, q :: O⟩ := fun bd σ H v g ok Q k _ => by
  obtain ⟨p, o⟩ := q
  obtain ⟨u, hu, _⟩ := g.obj (j := 0) rfl
  refine h (frB bd H p u) σ H v (g.fr hu) (by rw [show stab (frB bd H p u).Oc H O = stab bd.Oc H ((p, o) :: O) from stab_fr (q := (p, o))]; exact ok) Q (fun σ' l u' g' => k σ' l u' (g.unfr hu g' (Ext.refl _))) rfl
theorem lc_read (hi : IW X tg iter ⟨G, O⟩ n f O1 C) (Os : Nat → List OE) (bs : Nat → Bool) (gs : Nat → En) (vs : List Nat) (h0 : Os 0 = O1) (hC : ∀ k, k ≤ n → ∀ q, C (q :: Os k)) (hn : n ≤ sizeLine)
    (ht : ∀ k, k < n → LcTurn X scope elt tg ifs vs (f k) G (Os k) (Os (k + 1)) (bs k) (gs k)) {bd : Bd} {σ : L2.St} {H : Hp} (g : Good X.K bd σ H ⟨G, O⟩) {Q : VK}
    (k : ∀ p H', Good X.K bd σ H' ⟨G, (p, .lst (lcAcc bs gs n)) :: Os n⟩ → Ext (stab bd.Oc H O) (stab bd.Oc H' ((p, .lst (lcAcc bs gs n)) :: Os n)) → Q (.ref p) H') :
    tLc (tI X tg iter) (gB X scope tg) (pB X scope ifs) (eB X scope elt) vs σ H Q := hi bd σ H g _ fun J H1 g1 x1 it => by
  intro D hD
  obtain ⟨g2, x2⟩ := g1.new (o := .lst []) (u := .lst []) hD ⟨[], rfl, rfl⟩
  let bd1 : Bd := ⟨bd.Oc, bd.B, stab bd.Oc H1 O1⟩
  have h00 : lcAcc bs gs 0 = [] := rfl
  have sl1 : Slots X.K (stab bd.Oc H1 O1) G σ := g1.slots
  refine ⟨fun i m H' => m = n - i ∧ i ≤ n ∧ Good X.K bd1 (L2.wipe σ vs) H' ⟨wipeG G vs, (D, .lst (lcAcc bs gs i)) :: Os i⟩, ⟨n, by simp, Nat.zero_le _, ?_⟩, ?_⟩
  · rw [h00, h0]
    exact (g2.relow x2).re ((sl1.mono x2).wipe vs)
  · rintro i m H2 ⟨rfl, hin, g3⟩
    have low3 : Ext (stab bd.Oc H1 O1) (stab bd.Oc H2 ((D, OO.lst (lcAcc bs gs i)) :: Os i)) := g3.low
    by_cases hlt : i < n
    · refine .inr ⟨it.go i _ _ H2 _ _ hlt g3 g3.low (hC i hin _), fun H' => Good X.K bd1 (L2.wipe σ vs) H' ⟨wipeG G vs, (D, .lst (lcAcc bs gs (i + 1))) :: Os (i + 1)⟩, fun H' h => ⟨n - (i + 1), by omega, rfl, hlt, h⟩, fun x H3 y => ?_⟩
      obtain ⟨g4, x4, ok4⟩ := it.yld i _ _ H2 _ _ x H3 hlt g3 g3.low (hC i hin _) y
      obtain ⟨G2, Om, t1, t2, t3, t4⟩ := (ht i hlt).ex
      have sl3 : Slots X.K (stab bd1.Oc H3 ((D, OO.lst (lcAcc bs gs i)) :: Os i)) (wipeG G vs) (L2.wipe σ vs) := g4.slots
      intro s H0 C0 cl fp
      refine frame_WGN (t1 s H0 C0 cl fp) (D, .lst (lcAcc bs gs i)) bd1 _ H3 x g4 ok4 _ (fun σ2 l2 u2 g5 => ⟨wipe_of l2 u2, ?_⟩) rfl
      intro s H0 C0 cl fp
      refine (t2 s H0 C0 cl fp).frame (D, .lst (lcAcc bs gs i)) bd1 σ2 H3 g5 _ fun H5 g6 x6 => ?_
      cases hb : bs i with
      | true =>
        refine iteT ?_
        intro s H0 C0 cl fp
        refine ((t3 hb s H0 C0 cl fp).frame (D, .lst (lcAcc bs gs i))).use g6 fun w H6 g7 x7 ok7 => ?_
        obtain ⟨u, e1, ws, rfl, okw⟩ := g7.obj (j := 0) rfl
        refine ⟨ws, e1, by rw [okw.length]; exact Nat.lt_of_le_of_lt (lcAcc_len bs gs i) (Nat.lt_of_lt_of_le hlt hn), ?_⟩
        obtain ⟨g8, e8⟩ := g7.put (j := 0) (o := .lst (lcAcc bs gs i ++ [gs i])) (u := .lst (ws ++ [w])) rfl ⟨_, rfl, okw.append (EnsOk.one ok7)⟩
        rw [lcAcc_succ, if_pos hb]
        have g9 : Good X.K bd1 σ2 (upd H6 D (.lst (ws ++ [w]))) ⟨G2, (D, .lst (lcAcc bs gs i ++ [gs i])) :: Os (i + 1)⟩ := g8
        refine g9.re ?_
        have e9 : stab bd1.Oc (upd H6 D (.lst (ws ++ [w]))) ((D, .lst (lcAcc bs gs i ++ [gs i])) :: Os (i + 1)) = stab bd1.Oc H6 ((D, .lst (lcAcc bs gs i)) :: Os (i + 1)) := e8
        show Slots X.K (stab bd1.Oc (upd H6 D (.lst (ws ++ [w]))) ((D, .lst (lcAcc bs gs i ++ [gs i])) :: Os (i + 1))) _ _
        rw [e9]
        exact (sl3.mono x6).mono x7
      | false =>
        refine iteF ?_
        rw [lcAcc_succ, if_neg (by rw [hb]; exact Bool.false_ne_true), t4 hb]
        exact g6.re (sl3.mono x6)
    · have e : i = n := by omega
      subst e
      refine .inl ⟨it.stop _ _ H2 _ _ g3 g3.low (hC i hin _), k D H2 ?_ (x1.trans g3.low)⟩
      have g4 : Good X.K bd1 σ H2 ⟨G, (D, .lst (lcAcc bs gs i)) :: Os i⟩ := g3.re (sl1.mono g3.low)
      exact g4.relow (g1.low.trans g3.low)
theorem en_lc (hi : IW X tg iter ⟨G, O⟩ n f O1 C) (Os : Nat → List OE) (bs : Nat → Bool) (gs : Nat → En) (ok : BlkOk X.N X.env.scope scope own') (hN : X.N.Nodup) (h0 : Os 0 = O1) (hC : ∀ k, k ≤ n → ∀ q, C (q :: Os k)) (hn : n ≤ sizeLine)
    (ht : ∀ k, k < n → LcTurn X scope elt tg ifs (own'.map (·.2)) (f k) G (Os k) (Os (k + 1)) (bs k) (gs k)) (hc : X.calm = true := by rfl) (hs : ∀ x, foldedSetIterable iter X.env x = pure x := by intro _; rfl) :
    EN X (.ListComp elt [⟨tg, iter, ifs, 0⟩] scope pos) ⟨G, O⟩ (.lst (lcAcc bs gs n)) (Os n) := EN.mk fun bd σ H g Q k =>
  toE (pe_lc hc hN piI ok pg_B pt_B pe_B hs) (lc_read hi Os bs gs _ h0 hC hn ht g k)
theorem ws_setLc {i : Nat} {y : Str} {py spos : Pos} {nx : Env → Prop} {rt : En → List OE → Prop} {bk ct : Env → Prop} {ex : Addr → List (Str × D) → Env → Prop} (hi : IW X tg iter ⟨G, O⟩ n f O1 C) (Os : Nat → List OE) (bs : Nat → Bool) (gs : Nat → En) (ok : BlkOk X.N X.env.scope scope own') (hN : X.N.Nodup) (h0 : Os 0 = O1) (hC : ∀ k, k ≤ n → ∀ q, C (q :: Os k)) (hn : n ≤ sizeLine)
    (ht : ∀ k, k < n → LcTurn X scope elt tg ifs (own'.map (·.2)) (f k) G (Os k) (Os (k + 1)) (bs k) (gs k)) (kk : ∀ p, nx ⟨G.set i (some (.raw (.ref p))), (p, .lst (lcAcc bs gs n)) :: Os n⟩) (hy : X.N[i]? = some y := by rfl) (hyl : X.env.scope.names.lookup y = some .local := by rfl)
    (hsw : swapsWith (.ListComp elt [⟨tg, iter, ifs, 0⟩] scope pos) (some (.Name y py)) spos.line X.env = pure true := by exact sw_true rfl rfl rfl (by decide +kernel)) (hc : X.calm = true := by rfl) (hs : ∀ x, foldedSetIterable iter X.env x = pure x := by intro _; rfl) :
    WS X (.Assign [.Name y py] (.ListComp elt [⟨tg, iter, ifs, 0⟩] scope pos) spos) ⟨nx, rt, bk, ct, ex⟩ ⟨G, O⟩ := fun bd σ H g D c =>
  toS (ps_setLc hc hN hy hyl hsw piI ok pg_B pt_B pe_B hs) (lc_read hi Os bs gs _ h0 hC hn ht g fun p H' g' x => c.nx _ _ _ (g'.set (x := .raw (.ref p)) (u := .ref p) i rfl) (kk p))
end
end Lx

/-! Lx, part G: lists, tuples, texts, built-in functions, attributes, methods, instances. -/
namespace Lx
open PySem PySem.Spec PyProof.Rows L2

/-! ### is of bools -/
def isBl (b : Bool) : D → Bool
  | .bl c => c == b
  | _ => false
theorem op_isB {X : Cx} : OpR X (compareOp .Is) (fun x y H Q => ∃ b, y = .bl b ∧ Q (.bl (decide (x = .bl b))) H) := by
  intro pins s σ H x y v u Q I rx ry h
  obtain ⟨b, rfl, q⟩ := h
  cases (show u = Value.bool b from ry)
  by_cases e : x = .bl b
  · subst e
    cases (show v = Value.bool b from rx)
    exact wpAny_is_self rfl ⟨.bl true, H, I, rfl, by simpa using q⟩
  · have ne : v ≠ Value.bool b := fun z => by
      subst z
      exact e (rx.inj rfl)
    rw [decide_eq_false e] at q
    have hq : EP X pins σ Q (.bool false) s := ⟨.bl false, H, I, rfl, q⟩
    have go : ∀ {v : Value}, v ≠ Value.bool b → (∀ id, v ≠ .builtin id) → wpAny (model X.prog X.w) X.A (compareOp .Is v (.bool b)) (EP X pins σ Q) X.xe s := fun {v} hv hb => by
      have e1 : (v == Value.bool b) = false := by simpa using hv
      cases v <;> first | exact wpAny_is_other rfl hv hq | (refine wpAny_pure ?_; rw [e1]; exact hq) | exact wpAny_pure hq | exact absurd rfl (hb _)
    refine go ne fun id z => ?_
    subst z
    cases x with
    | non => exact nomatch rx
    | bl _ => exact nomatch rx
    | int _ => obtain ⟨_, z⟩ := rx; exact nomatch z
    | str _ => obtain ⟨_, z⟩ := rx; exact nomatch z
    | byt _ => obtain ⟨_, z⟩ := rx; exact nomatch z
    | flt _ => obtain ⟨_, z⟩ := rx; exact nomatch z
    | ref _ => exact nomatch rx
    | ty _ => exact nomatch rx
section
variable {X : Cx} {K : PySem.W.Frag} {G : List (Option En)} {O O1 O2 O3 O' : List OE} {x y z r : En} {pos p : Pos} {a b e : Expr} 
theorem rep_bl {S : Hp} {d : D} {v : V} {c : Bool} (r : Rep K S d v) : decide (v = .bl c) = isBl c d := by
  cases d with
  | non => have e : v = .non := r; subst e; exact decide_eq_false fun q => nomatch q
  | bl b =>
    have e : v = .bl b := r
    subst e
    show decide (V.bl b = V.bl c) = (b == c)
    by_cases h : b = c
    · subst h; simp
    · rw [decide_eq_false (fun q => h (V.bl.inj q))]; exact (beq_eq_false_iff_ne.mpr h).symm
  | int b => have e : v = .int b := r; subst e; exact decide_eq_false fun q => nomatch q
  | str b => have e : v = .str b := r; subst e; exact decide_eq_false fun q => nomatch q
  | adr b => have e : v = .ref b := r; subst e; exact decide_eq_false fun q => nomatch q
  | ty b => have e : v = .ty b := r; subst e; exact decide_eq_false fun q => nomatch q
  | lst _ => obtain ⟨a, _, e, _⟩ := r; subst e; exact decide_eq_false fun q => nomatch q
  | tup _ => obtain ⟨a, _, e, _⟩ := r; subst e; exact decide_eq_false fun q => nomatch q
  | dK _ => obtain ⟨a, _, e, _⟩ := r; subst e; exact decide_eq_false fun q => nomatch q
  | dT _ => obtain ⟨a, _, e, _⟩ := r; subst e; exact decide_eq_false fun q => nomatch q
  | ins _ _ => obtain ⟨a, _, _, e, _⟩ := r; subst e; exact decide_eq_false fun q => nomatch q
  | tupS _ => obtain ⟨a, _, e, _⟩ := r; subst e; exact decide_eq_false fun q => nomatch q
  | lstF _ => obtain ⟨a, _, e, _⟩ := r; subst e; exact decide_eq_false fun q => nomatch q
theorem ov_isB {d : D} {c : Bool} : OV K (fun x y H Q => ∃ b, y = .bl b ∧ Q (.bl (decide (x = .bl b))) H) O (.d d) (.d (.bl c)) (.d (.bl (isBl c d))) := fun bd σ H G v w _ e1 e2 Q k => ⟨c, e2, by rw [rep_bl e1]; exact k _ rfl⟩
theorem et_isB {d : D} {c : Bool} (ha : EV X a ⟨G, O⟩ (.d d) O1) (hb : EV X b ⟨G, O1⟩ (.d (.bl c)) O2) : ET X (.Compare a [.Is] [b] pos) ⟨G, O⟩ (isBl c d) O2 := et_cmp op_isB ha hb ov_isB (nomark _)
theorem ev_isB {d : D} {c : Bool} (ha : EV X a ⟨G, O⟩ (.d d) O1) (hb : EV X b ⟨G, O1⟩ (.d (.bl c)) O2) : EV X (.Compare a [.Is] [b] pos) ⟨G, O⟩ (.d (.bl (isBl c d))) O2 := ev_cmp op_isB ha hb ov_isB (nomark _)

/-! ### subscripts, slices -/
theorem ev_ix {rr : R2} (hr : IxR X rr) (ha : EV X a ⟨G, O⟩ x O1) (hb : EV X b ⟨G, O1⟩ y O2) (ho : OV X.K rr O2 x y z) (hs : PlainIx b := by exact fun _ _ => rfl) : EV X (.Subscript a b pos) ⟨G, O⟩ z O2 := ev_bin (pe_ix hr peE peE hs) ha hb ho
theorem atI_rep {S : Hp} {ds : List D} {vs : List V} {i : Int} {d : D} (h : Reps K S ds vs) (e : atI ds i = some d) : ∃ v, atI vs i = some v ∧ Rep K S d v := by
  unfold atI at e ⊢
  rw [h.length]
  cases q : ixN ds.length i with
  | none => rw [q] at e; cases e
  | some j =>
    rw [q] at e
    obtain ⟨v, e1, e2⟩ := h.get e
    exact ⟨v, e1, e2⟩
theorem atI_ens {S : Hp} {ds : List En} {vs : List V} {i : Int} {d : En} (h : EnsOk K S ds vs) (e : atI ds i = some d) : ∃ v, atI vs i = some v ∧ EnOk K S d v := by
  unfold atI at e ⊢
  rw [h.length]
  cases q : ixN ds.length i with
  | none => rw [q] at e; cases e
  | some j =>
    rw [q] at e
    obtain ⟨v, e1, e2⟩ := h.get e
    exact ⟨v, e1, e2⟩
theorem ev_ixL {i : Int} {xs : List En} (ha : EV X a ⟨G, O⟩ x O1) (hb : EV X b ⟨G, O1⟩ (.d (.int i)) O2) (hl : LsAt X.K O2 x xs) (h : atI xs i = some r) (hs : PlainIx b := by exact fun _ _ => rfl) : EV X (.Subscript a b pos) ⟨G, O⟩ r O2 :=
  ev_ix ix_list ha hb (fun bd σ H G v w g e1 e2 Q k => by
    obtain ⟨p, vs, rfl, h1, h2⟩ := hl bd σ H G v g e1
    obtain ⟨u, h3, h4⟩ := atI_ens h2 h
    exact ⟨p, vs, i, u, rfl, e2, h1, h3, k u h4⟩) hs
theorem ev_ixT {i : Int} {ds : List D} {d : D} (ha : EV X a ⟨G, O⟩ (.d (.tup ds)) O1) (hb : EV X b ⟨G, O1⟩ (.d (.int i)) O2) (h : atI ds i = some d) (hs : PlainIx b := by exact fun _ _ => rfl) : EV X (.Subscript a b pos) ⟨G, O⟩ (.d d) O2 :=
  ev_ix ix_tup ha hb (fun bd σ H G v w g ⟨p, vs, e, h1, h2⟩ e2 Q k => by
    obtain ⟨u, h3, h4⟩ := atI_rep h2 h
    exact ⟨p, vs, i, u, e, e2, h1.up, h3, k u h4⟩) hs
theorem ev_ixS {i : Int} {z : Str} {c : Nat} (ha : EV X a ⟨G, O⟩ (.d (.str z)) O1) (hb : EV X b ⟨G, O1⟩ (.d (.int i)) O2) (hz : z.length ≤ sizeLine) (h : atI z.cps.toList i = some c) (hs : PlainIx b := by exact fun _ _ => rfl) : EV X (.Subscript a b pos) ⟨G, O⟩ (.d (.str ⟨#[c]⟩)) O2 :=
  ev_ix ix_str ha hb (fun bd σ H G v w g e1 e2 Q k => ⟨z, i, c, e1, e2, hz, h, k _ rfl⟩) hs
/-- parts of a slice -/
def EO (X : Cx) (e : Option Expr) (E : Env) (i : Option Int) (O' : List OE) : Prop := match e, i with
  | none, none => O' = E.O
  | some e, some i => EV X e E (.d (.int i)) O'
  | _, _ => False
def cutD {α : Type} (xs : List α) (lo hi : Option Int) : List α := (xs.drop (HT.sIx xs.length 0 lo)).take (HT.sIx xs.length xs.length hi - HT.sIx xs.length 0 lo)
theorem cut_rep {S : Hp} {ds : List D} {vs : List V} {lo hi : Option Int} (h : Reps K S ds vs) : Reps K S (cutD ds lo hi) (cutV vs lo hi) := by
  unfold cutD cutV
  rw [h.length]
  exact (h.drop _).take _
theorem EnsOk.take {S : Hp} : ∀ {ds : List En} {vs : List V} (n : Nat), EnsOk K S ds vs → EnsOk K S (ds.take n) (vs.take n)
  | [], vs, n, h => by
    have e : vs = [] := h
    subst e
    simp [EnsOk]
  | _ :: _, _, 0, _ => rfl
  | d :: ds, _, n + 1, ⟨v, r, h1, h2, h3⟩ => by
    subst h1
    exact ⟨v, r.take n, rfl, h2, EnsOk.take n h3⟩
theorem EnsOk.drop {S : Hp} : ∀ {ds : List En} {vs : List V} (n : Nat), EnsOk K S ds vs → EnsOk K S (ds.drop n) (vs.drop n)
  | [], vs, n, h => by
    have e : vs = [] := h
    subst e
    simp [EnsOk]
  | _ :: _, _, 0, h => h
  | d :: ds, _, n + 1, ⟨v, r, h1, h2, h3⟩ => by
    subst h1
    exact EnsOk.drop n h3
theorem EnsOk.reverse {S : Hp} : ∀ {ds : List En} {vs : List V}, EnsOk K S ds vs → EnsOk K S ds.reverse vs.reverse
  | [], vs, h => by
    have e : vs = [] := h
    subst e
    exact rfl
  | d :: ds, _, ⟨v, r, h1, h2, h3⟩ => by
    subst h1
    rw [List.reverse_cons, List.reverse_cons]
    exact (EnsOk.reverse h3).append (EnsOk.one h2)
theorem cut_ens {S : Hp} {ds : List En} {vs : List V} {lo hi : Option Int} (h : EnsOk K S ds vs) : EnsOk K S (cutD ds lo hi) (cutV vs lo hi) := by
  unfold cutD cutV
  rw [h.length]
  exact (h.drop _).take _
def tO (X : Cx) (e : Option Expr) : TO := match e with
  | none => tNoPart
  | some e => tPart (tE X e)
theorem poO {e : Option Expr} : PO X e (tO X e) := match e with
  | none => po_none
  | some _ => po_some peE
theorem EO.use {eo : Option Expr} {i : Option Int} (h : EO X eo ⟨G, O⟩ i O') {bd : Bd} {H : Hp} {σ : L2.St} (g : Good X.K bd σ H ⟨G, O⟩) {Q : Option Int → Hp → Prop}
    (k : ∀ H', Good X.K bd σ H' ⟨G, O'⟩ → Ext (stab bd.Oc H O) (stab bd.Oc H' O') → Q i H') : tO X eo σ H Q := by
  cases eo with
  | none =>
    cases i with
    | none =>
      have e : O' = O := h
      subst e
      exact k H g (Ext.refl _)
    | some i => exact h.elim
  | some e =>
    cases i with
    | none => exact h.elim
    | some i => exact EV.use h g fun v H1 g1 x1 e1 => ⟨i, e1, k H1 g1 x1⟩
theorem en_slice {lo hi : Option Expr} {i j : Option Int} {xs : List En} {p2 : Pos} (ha : EV X a ⟨G, O⟩ x O1) (hl : EO X lo ⟨G, O1⟩ i O2) (hu : EO X hi ⟨G, O2⟩ j O3) (hx : LsAt X.K O3 x xs) : EN X (.Subscript a (.Slice lo hi none p2) pos) ⟨G, O⟩ (.lst (cutD xs i j)) O3 :=
  EN.mk fun bd σ H g Q k => toE (pe_slice sl_list peE poO poO) (ha.use g fun v H1 g1 x1 ok1 => EO.use hl g1 fun H2 g2 x2 => EO.use hu g2 fun H3 g3 x3 => by
    obtain ⟨p, vs, rfl, h1, h2⟩ := hx bd σ H3 G v g3 ((ok1.mono x2).mono x3)
    refine ⟨p, vs, rfl, h1, fun q hq => ?_⟩
    obtain ⟨g4, x4⟩ := g3.new (o := .lst (cutD xs i j)) hq ⟨_, rfl, cut_ens h2⟩
    exact k q _ g4 (((x1.trans x2).trans x3).trans x4))
theorem ev_sliceS {lo hi : Option Expr} {i j : Option Int} {z : Str} {p2 : Pos} (ha : EV X a ⟨G, O⟩ (.d (.str z)) O1) (hl : EO X lo ⟨G, O1⟩ i O2) (hu : EO X hi ⟨G, O2⟩ j O3) (hz : z.length ≤ sizeLine) : EV X (.Subscript a (.Slice lo hi none p2) pos) ⟨G, O⟩ (.d (.str (cutS z i j))) O3 :=
  EV.mk fun bd σ H g Q k => toE (pe_slice sl_str peE poO poO) (ha.use g fun v H1 g1 x1 ok1 => EO.use hl g1 fun H2 g2 x2 => EO.use hu g2 fun H3 g3 x3 => ⟨z, ok1, hz, k _ H3 g3 ((x1.trans x2).trans x3) rfl⟩)
theorem en_rev {xs : List En} {kk : Nat} {p1 p2 p3 : Pos} (ha : EV X a ⟨G, O⟩ x O1) (hx : LsAt X.K O1 x xs) : EN X (.Subscript a (.Slice none none (some (.UnaryOp .USub (.Constant (.int 1) kk p1) p2)) p3) pos) ⟨G, O⟩ (.lst xs.reverse) O1 :=
  EN.mk fun bd σ H g Q k => toE (pe_revL peE) (ha.use g fun v H1 g1 x1 ok1 => by
    obtain ⟨p, vs, rfl, h1, h2⟩ := hx bd σ H1 G v g1 ok1
    refine ⟨p, vs, rfl, h1, fun q hq => ?_⟩
    obtain ⟨g4, x4⟩ := g1.new (o := .lst xs.reverse) hq ⟨_, rfl, h2.reverse⟩
    exact k q _ g4 (x1.trans x4))
theorem en_cat {xs ys : List En} (ha : EV X a ⟨G, O⟩ x O1) (hb : EV X b ⟨G, O1⟩ y O2) (hx : LsX X.K O2 x xs) (hy : LsX X.K O2 y ys) (hl : xs.length + ys.length ≤ sizeLine) : EN X (.BinOp a .Add b pos) ⟨G, O⟩ (.lst (xs ++ ys)) O2 :=
  en_bin (pe_op op_cat peE peE) ha hb fun bd σ H G v w g e1 e2 Q k => by
    obtain ⟨p, vs, rfl, h1, h2⟩ := hx bd σ H G v g e1
    obtain ⟨q, ws, rfl, h3, h4⟩ := hy bd σ H G w g e2
    exact ⟨p, q, vs, ws, rfl, rfl, h1, h3, by rw [h2.length, h4.length]; exact hl, fun l hn => k _ (h2.append h4) l hn⟩
theorem ev_catT {ds es : List D} (ha : EV X a ⟨G, O⟩ (.d (.tup ds)) O1) (hb : EV X b ⟨G, O1⟩ (.d (.tup es)) O2) (hd : ds ≠ []) (hl : ds.length + es.length ≤ sizeLine) : EV X (.BinOp a .Add b pos) ⟨G, O⟩ (.d (.tup (ds ++ es))) O2 :=
  EV.mk fun bd σ H g Q k => toE (pe_op op_catT peE peE) (ha.use g fun v H1 g1 x1 ok1 => hb.use g1 fun w H2 g2 x2 ⟨q, ws, e2, h3, h4⟩ => by
    obtain ⟨p, vs, e1, h1, h2⟩ := ok1.mono x2
    refine ⟨p, q, vs, ws, e1, e2, h1.up, h3.up, fun z => hd (by have := h2.length; rw [z] at this; exact List.length_eq_zero_iff.mp this.symm), by rw [h2.length, h4.length]; exact hl, fun z => ?_, fun _ r hr => ?_⟩
    · have : es = [] := by have := h4.length; rw [z] at this; exact List.length_eq_zero_iff.mp this.symm
      subst this
      exact k _ H2 g2 (x1.trans x2) ⟨p, vs, rfl, h1, by rw [List.append_nil]; exact h2⟩
    · obtain ⟨g3, x3, rp⟩ := g2.newTup (ds := ds ++ es) hr (h2.append h4)
      exact k _ _ g3 ((x1.trans x2).trans x3) rp)
theorem ev_catS {s t : Str} (ha : EV X a ⟨G, O⟩ (.d (.str s)) O1) (hb : EV X b ⟨G, O1⟩ (.d (.str t)) O2) (hl : s.length + t.length ≤ sizeLine) : EV X (.BinOp a .Add b pos) ⟨G, O⟩ (.d (.str (s ++ t))) O2 :=
  ev_op op_add_str ha hb fun bd σ H G v w g e1 e2 Q k => ⟨s, t, e1, e2, hl, k _ rfl⟩

/-! ### built-in functions -/
theorem ev_blt1 {id : String} {x : Str} {rr : List V → Hp → VK → Prop} {y : En} (hc : CallR X (.builtin id) rr) (hm : X.mg x = none) (hv : bootBuiltins x = some (.builtin id)) (ha : EV X a ⟨G, O⟩ y O1) (ho : ∀ bd σ H G v, Good X.K bd σ H ⟨G, O1⟩ → EnOk X.K (stab bd.Oc H O1) y v → ∀ Q : VK, (∀ u, EnOk X.K (stab bd.Oc H O1) r u → Q u H) → rr [v] H Q) (hg : Gl X x := by rfl)
    (hn : x ≠ "__name__" := by decide) (hdb : (x == ("__debug__" : Str)) = false := by decide) (he : starEach [a] X.env = (false, eval a X.env) :: starEach [] X.env := by rfl) (hpl : (backTo pos (starEach [] X.env)).any (·.1) = false := by rfl) : EV X (.Call (.Name x p) [a] [] pos) ⟨G, O⟩ r O1 :=
  EV.mk fun bd σ H g Q k => toE (pe_callB hc hg hm hv paA hn hdb he hpl) ((ea_cons ha ea_nil he) bd σ H g _ fun vs H1 g1 x1 ⟨v, t, e1, ok, e2⟩ => by
    have e2 : t = [] := e2
    subst e1 e2
    exact ho bd σ H1 G v g1 ok Q fun u hu => k u H1 g1 x1 hu)
theorem ev_bty1 {id : String} {x : Str} {rr : List V → Hp → VK → Prop} {y : En} (hc : CallR X (.type id) rr) (hm : X.mg x = none) (hv : bootBuiltins x = some (.type id)) (ha : EV X a ⟨G, O⟩ y O1) (ho : ∀ bd σ H G v, Good X.K bd σ H ⟨G, O1⟩ → EnOk X.K (stab bd.Oc H O1) y v → ∀ Q : VK, (∀ u, EnOk X.K (stab bd.Oc H O1) r u → Q u H) → rr [v] H Q) (hg : Gl X x := by rfl)
    (hn : x ≠ "__name__" := by decide) (hdb : (x == ("__debug__" : Str)) = false := by decide) (he : starEach [a] X.env = (false, eval a X.env) :: starEach [] X.env := by rfl) (hpl : (backTo pos (starEach [] X.env)).any (·.1) = false := by rfl) : EV X (.Call (.Name x p) [a] [] pos) ⟨G, O⟩ r O1 :=
  EV.mk fun bd σ H g Q k => toE (pe_callTy hc hg hm hv paA hn hdb he hpl) ((ea_cons ha ea_nil he) bd σ H g _ fun vs H1 g1 x1 ⟨v, t, e1, ok, e2⟩ => by
    have e2 : t = [] := e2
    subst e1 e2
    exact ho bd σ H1 G v g1 ok Q fun u hu => k u H1 g1 x1 hu)
theorem ev_blt2 {id : String} {x : Str} {rr : List V → Hp → VK → Prop} {y z : En} (hc : CallR X (.builtin id) rr) (hm : X.mg x = none) (hv : bootBuiltins x = some (.builtin id)) (ha : EV X a ⟨G, O⟩ y O1) (hb : EV X b ⟨G, O1⟩ z O2) (ho : ∀ bd σ H G v w, Good X.K bd σ H ⟨G, O2⟩ → EnOk X.K (stab bd.Oc H O2) y v → EnOk X.K (stab bd.Oc H O2) z w → ∀ Q : VK, (∀ u, EnOk X.K (stab bd.Oc H O2) r u → Q u H) → rr [v, w] H Q) (hg : Gl X x := by rfl)
    (hn : x ≠ "__name__" := by decide) (hdb : (x == ("__debug__" : Str)) = false := by decide) (he : starEach [a, b] X.env = (false, eval a X.env) :: starEach [b] X.env := by rfl) (he2 : starEach [b] X.env = (false, eval b X.env) :: starEach [] X.env := by rfl) (hpl : (backTo pos (starEach [b] X.env)).any (·.1) = false := by rfl) : EV X (.Call (.Name x p) [a, b] [] pos) ⟨G, O⟩ r O2 :=
  EV.mk fun bd σ H g Q k => toE (pe_callB hc hg hm hv paA hn hdb he hpl) ((ea_cons ha (ea_cons hb ea_nil he2) he) bd σ H g _ fun vs H1 g1 x1 ⟨v, t, e1, ok, w, t2, e2, ok2, e3⟩ => by
    have e3 : t2 = [] := e3
    subst e1 e2 e3
    exact ho bd σ H1 G v w g1 ok ok2 Q fun u hu => k u H1 g1 x1 hu)
theorem ev_lenL {xs : List En} (hm : X.mg "len" = none) (ha : EV X a ⟨G, O⟩ x O1) (hl : LsAt X.K O1 x xs) (hg : Gl X "len" := by rfl) (he : starEach [a] X.env = (false, eval a X.env) :: starEach [] X.env := by rfl) : EV X (.Call (.Name "len" p) [a] [] pos) ⟨G, O⟩ (.d (.int xs.length)) O1 :=
  ev_blt1 call_len_seq hm boot_len ha (fun bd σ H G v g ok Q k => by
    obtain ⟨p, vs, rfl, h1, h2⟩ := hl bd σ H G v g ok
    exact ⟨p, vs, rfl, .inl (h1), k _ (by show V.int _ = V.int _; rw [h2.length])⟩) hg (he := he)
theorem ev_lenT {ds : List D} (hm : X.mg "len" = none) (ha : EV X a ⟨G, O⟩ (.d (.tup ds)) O1) (hg : Gl X "len" := by rfl) (he : starEach [a] X.env = (false, eval a X.env) :: starEach [] X.env := by rfl) : EV X (.Call (.Name "len" p) [a] [] pos) ⟨G, O⟩ (.d (.int ds.length)) O1 :=
  ev_blt1 call_len_seq hm boot_len ha (fun bd σ H G v g ⟨p, vs, e, h1, h2⟩ Q k => ⟨p, vs, by rw [e], .inr h1.up, k _ (by show V.int _ = V.int _; rw [h2.length])⟩) hg (he := he)
theorem ev_lenS {s : Str} (hm : X.mg "len" = none) (ha : EV X a ⟨G, O⟩ (.d (.str s)) O1) (hl : s.length ≤ sizeLine) (hg : Gl X "len" := by rfl) (he : starEach [a] X.env = (false, eval a X.env) :: starEach [] X.env := by rfl) : EV X (.Call (.Name "len" p) [a] [] pos) ⟨G, O⟩ (.d (.int s.length)) O1 :=
  ev_blt1 call_len_str hm boot_len ha (fun bd σ H G v g e Q k => ⟨s, by rw [show v = .str s from e], hl, k _ rfl⟩) hg (he := he)
theorem ev_intI {i : Int} (hm : X.mg "int" = none) (ha : EV X a ⟨G, O⟩ (.d (.int i)) O1) (hg : Gl X "int" := by rfl) (he : starEach [a] X.env = (false, eval a X.env) :: starEach [] X.env := by rfl) : EV X (.Call (.Name "int" p) [a] [] pos) ⟨G, O⟩ (.d (.int i)) O1 :=
  ev_bty1 call_int1 hm (by decide +kernel) ha (fun bd σ H G v g e Q k => .inl ⟨i, by rw [show v = .int i from e], k _ rfl⟩) hg (he := he)
theorem ev_intB {c : Bool} (hm : X.mg "int" = none) (ha : EV X a ⟨G, O⟩ (.d (.bl c)) O1) (hg : Gl X "int" := by rfl) (he : starEach [a] X.env = (false, eval a X.env) :: starEach [] X.env := by rfl) : EV X (.Call (.Name "int" p) [a] [] pos) ⟨G, O⟩ (.d (.int (if c then 1 else 0))) O1 :=
  ev_bty1 call_int1 hm (by decide +kernel) ha (fun bd σ H G v g e Q k => .inr ⟨c, by rw [show v = .bl c from e], k _ rfl⟩) hg (he := he)
theorem ev_min2 {i j : Int} (hm : X.mg "min" = none) (ha : EV X a ⟨G, O⟩ (.d (.int i)) O1) (hb : EV X b ⟨G, O1⟩ (.d (.int j)) O2) (hc : X.calm = true := by rfl) (hg : Gl X "min" := by rfl) (he : starEach [a, b] X.env = (false, eval a X.env) :: starEach [b] X.env := by rfl) (he2 : starEach [b] X.env = (false, eval b X.env) :: starEach [] X.env := by rfl) (hpl : (backTo pos (starEach [b] X.env)).any (·.1) = false := by rfl) :
    EV X (.Call (.Name "min" p) [a, b] [] pos) ⟨G, O⟩ (.d (.int (if j < i then j else i))) O2 :=
  ev_blt2 (call_min2 hc) hm (by decide +kernel) ha hb (fun bd σ H G v w g e e2 Q k => ⟨i, j, by rw [show v = .int i from e, show w = .int j from e2], k _ rfl⟩) hg (he := he) (he2 := he2) (hpl := hpl)
theorem ev_max2 {i j : Int} (hm : X.mg "max" = none) (ha : EV X a ⟨G, O⟩ (.d (.int i)) O1) (hb : EV X b ⟨G, O1⟩ (.d (.int j)) O2) (hc : X.calm = true := by rfl) (hg : Gl X "max" := by rfl) (he : starEach [a, b] X.env = (false, eval a X.env) :: starEach [b] X.env := by rfl) (he2 : starEach [b] X.env = (false, eval b X.env) :: starEach [] X.env := by rfl) (hpl : (backTo pos (starEach [b] X.env)).any (·.1) = false := by rfl) :
    EV X (.Call (.Name "max" p) [a, b] [] pos) ⟨G, O⟩ (.d (.int (if j > i then j else i))) O2 :=
  ev_blt2 (call_max2 hc) hm (by decide +kernel) ha hb (fun bd σ H G v w g e e2 Q k => ⟨i, j, by rw [show v = .int i from e, show w = .int j from e2], k _ rfl⟩) hg (he := he) (he2 := he2) (hpl := hpl)
theorem ints_rep {S : Hp} : ∀ {ns : List Int} {vs : List V}, EnsOk K S (ns.map fun n => En.d (.int n)) vs → vs = ns.map V.int
  | [], vs, h => h
  | n :: ns, _, ⟨v, r, h1, h2, h3⟩ => by
    have h2 : v = .int n := h2
    subst h1 h2
    rw [ints_rep h3]
    rfl
theorem ev_sum {ns : List Int} (hm : X.mg "sum" = none) (ha : EV X a ⟨G, O⟩ x O1) (hl : LsAt X.K O1 x (ns.map fun n => En.d (.int n))) (hc : X.calm = true := by rfl) (hg : Gl X "sum" := by rfl) (he : starEach [a] X.env = (false, eval a X.env) :: starEach [] X.env := by rfl) : EV X (.Call (.Name "sum" p) [a] [] pos) ⟨G, O⟩ (.d (.int ns.sum)) O1 :=
  ev_blt1 (cr_sum hc) hm (by decide +kernel) ha (fun bd σ H G v g ok Q k => by
    obtain ⟨p, vs, rfl, h1, h2⟩ := hl bd σ H G v g ok
    exact ⟨p, ns, rfl, by rw [← ints_rep h2]; exact h1, k _ rfl⟩) hg (he := he)
/-- list(x), tuple(x) -/
theorem en_list {xs : List En} (hm : X.mg "list" = none) (ha : EV X a ⟨G, O⟩ x O1) (hl : LsAt X.K O1 x xs) (hg : Gl X "list" := by rfl) (he : starEach [a] X.env = (false, eval a X.env) :: starEach [] X.env := by rfl) : EN X (.Call (.Name "list" p) [a] [] pos) ⟨G, O⟩ (.lst xs) O1 :=
  EN.mk fun bd σ H g Q k => toE (pe_callTy call_list_of hg hm (by decide +kernel) paA (by decide) (by decide) he rfl) ((ea_cons ha ea_nil he) bd σ H g _ fun vs H1 g1 x1 ⟨v, t, e1, ok, e2⟩ => by
    have e2 : t = [] := e2
    subst e1 e2
    obtain ⟨p, ws, rfl, h1, h2⟩ := hl bd σ H1 G v g1 ok
    refine ⟨p, ws, rfl, .inl (h1), fun l hl => ?_⟩
    obtain ⟨g2, x2⟩ := g1.new (o := .lst xs) hl ⟨_, rfl, h2⟩
    exact k l _ g2 (x1.trans x2))
theorem en_listT {ds : List D} (hm : X.mg "list" = none) (ha : EV X a ⟨G, O⟩ (.d (.tup ds)) O1) (hg : Gl X "list" := by rfl) (he : starEach [a] X.env = (false, eval a X.env) :: starEach [] X.env := by rfl) : EN X (.Call (.Name "list" p) [a] [] pos) ⟨G, O⟩ (.lst (ds.map .d)) O1 :=
  EN.mk fun bd σ H g Q k => toE (pe_callTy call_list_of hg hm (by decide +kernel) paA (by decide) (by decide) he rfl) ((ea_cons ha ea_nil he) bd σ H g _ fun vs H1 g1 x1 ⟨v, t, e1, ⟨p, ws, e3, h1, h2⟩, e2⟩ => by
    have e2 : t = [] := e2
    subst e1 e2 e3
    refine ⟨p, ws, rfl, .inr h1.up, fun l hl => ?_⟩
    obtain ⟨g2, x2⟩ := g1.new (o := .lst (ds.map .d)) hl ⟨_, rfl, EnsOk.of_reps h2⟩
    exact k l _ g2 (x1.trans x2))
theorem ev_tuple {ds : List D} (hm : X.mg "tuple" = none) (ha : EV X a ⟨G, O⟩ x O1) (hl : LsAt X.K O1 x (ds.map .d)) (hg : Gl X "tuple" := by rfl) (he : starEach [a] X.env = (false, eval a X.env) :: starEach [] X.env := by rfl) : EV X (.Call (.Name "tuple" p) [a] [] pos) ⟨G, O⟩ (.d (.tup ds)) O1 :=
  EV.mk fun bd σ H g Q k => toE (pe_callTy call_tuple_of hg hm (by decide +kernel) paA (by decide) (by decide) he rfl) ((ea_cons ha ea_nil he) bd σ H g _ fun vs H1 g1 x1 ⟨v, t, e1, ok, e2⟩ => by
    have e2 : t = [] := e2
    subst e1 e2
    obtain ⟨p, ws, rfl, h1, h2⟩ := hl bd σ H1 G v g1 ok
    refine ⟨p, ws, rfl, .inl ⟨h1, fun l hl => ?_⟩⟩
    obtain ⟨g2, x2, rp⟩ := g1.newTup (ds := ds) hl h2.reps
    exact k _ _ g2 (x1.trans x2) rp)
theorem ev_tupleT {ds : List D} (hm : X.mg "tuple" = none) (ha : EV X a ⟨G, O⟩ (.d (.tup ds)) O1) (hg : Gl X "tuple" := by rfl) (he : starEach [a] X.env = (false, eval a X.env) :: starEach [] X.env := by rfl) : EV X (.Call (.Name "tuple" p) [a] [] pos) ⟨G, O⟩ (.d (.tup ds)) O1 :=
  EV.mk fun bd σ H g Q k => toE (pe_callTy call_tuple_of hg hm (by decide +kernel) paA (by decide) (by decide) he rfl) ((ea_cons ha ea_nil he) bd σ H g _ fun vs H1 g1 x1 ⟨v, t, e1, ⟨p, ws, e3, h1, h2⟩, e2⟩ => by
    have e2 : t = [] := e2
    subst e1 e2 e3
    exact ⟨p, ws, rfl, .inr ⟨h1.up, k _ H1 g1 x1 ⟨p, ws, rfl, h1, h2⟩⟩⟩)
/-- isinstance(x, T), T a built-in class -/
def tyD : D → String
  | .non => "NoneType"
  | .bl _ => "bool"
  | .int _ => "int"
  | .str _ => "str"
  | .lst _ => "list"
  | .tup _ => "tuple"
  | .tupS _ => "tuple"
  | .dK _ => "dict"
  | .dT _ => "dict"
  | _ => "?"
theorem tyD_ok {H : Hp} {O : List OE} {bd : Bd} {d : D} {v : V} (hd : tyD d ≠ "?") (r : Rep K (stab bd.Oc H O) d v) (hu : ∀ kvs, d ≠ .dT kvs) : TyX K H v (.type (tyD d)) := by
  cases d with
  | non => have e : v = .non := r; subst e; exact .base .non
  | bl b => have e : v = .bl b := r; subst e; exact .base (.bl _)
  | int b => have e : v = .int b := r; subst e; exact .base (.int _)
  | str b => have e : v = .str b := r; subst e; exact .base (.str _)
  | adr b => exact absurd rfl hd
  | ty b => exact absurd rfl hd
  | lst _ => obtain ⟨a, vs, e, h, _⟩ := r; subst e; exact .base (.lst (stab_at h))
  | tup _ =>
    obtain ⟨a, vs, e, h, _⟩ := r
    subst e
    rcases h with (h | ⟨o, h, _⟩) | ⟨o, its, n, h1, h2, _⟩
    · exact .base (.tup (stab_at h))
    · exact .fTuple (stab_at h)
    · exact .kTuple h1 h2
  | lstF _ => exact absurd rfl hd
  | tupS _ =>
    obtain ⟨a, vs, e, ⟨o, h, _⟩, _⟩ := r
    subst e
    exact .fTuple (stab_at h)
  | dK _ =>
    obtain ⟨a, vs, e, h, _⟩ := r
    subst e
    rcases h with h | ⟨o, h⟩
    · exact .base (.dK (stab_at h))
    · exact .fDict (stab_at h)
  | dT kvs => exact absurd rfl (hu kvs)
  | ins _ _ => exact absurd rfl hd
end
end Lx

/-! Lx, part H: attributes, methods, instances, stores. -/
namespace Lx
open PySem PySem.Spec PyProof.Rows L2
section
variable {X : Cx} {K : PySem.W.Frag} {G : List (Option En)} {O O1 O2 O3 O' Or : List OE} {x y z r : En} {pos p apos : Pos} {a b e o : Expr} {es : List Expr} {rs : List En}  {nx : Env → Prop} {rt : En → List OE → Prop} {bk ct : Env → Prop} {ex : Addr → List (Str × D) → Env → Prop} {C f : Addr} {fd : FuncData} {ι : Type} {S : FSp ι} {k : Nat} {m : Str} {ps : List Str} {fs : List (Str × En)}
theorem ev_ty {x : Str} {n : String} (hm : X.mg x = none) (hv : bootBuiltins x = some (.type n)) (hg : Gl X x := by rfl) (hn : x ≠ "__name__" := by decide) (hd : (x == ("__debug__" : Str)) = false := by decide) : EV X (.Name x pos) ⟨G, O⟩ (.d (.ty n)) O :=
  EV.mk fun bd σ H g Q k => toE (pe_bltn (v := .ty n) hg hm hv rfl hn hd) (k _ H g (Ext.refl _) rfl)
theorem ev_isi {d : D} {n : String} {c : Bool} (hm : X.mg "isinstance" = none) (ha : EV X a ⟨G, O⟩ (.d d) O1) (hb : EV X b ⟨G, O1⟩ (.d (.ty n)) O2) (hk : kitB (tyD d) n = some c) (hd : tyD d ≠ "?" := by decide) (hu : ∀ kvs, d ≠ .dT kvs := by intro _ h; cases h) (hg : Gl X "isinstance" := by rfl)
    (he : starEach [a, b] X.env = (false, eval a X.env) :: starEach [b] X.env := by rfl) (he2 : starEach [b] X.env = (false, eval b X.env) :: starEach [] X.env := by rfl) (hpl : (backTo pos (starEach [b] X.env)).any (·.1) = false := by rfl) : EV X (.Call (.Name "isinstance" p) [a, b] [] pos) ⟨G, O⟩ (.d (.bl c)) O2 :=
  ev_blt2 call_isi hm (by decide +kernel) ha hb (fun bd σ H G v w g e1 e2 Q k => ⟨v, w, _, _, c, rfl, (by rw [show w = .ty n from e2]; exact .ty n), tyD_ok hd e1 hu, kit_ty hk, k _ rfl⟩) hg (he := he) (he2 := he2) (hpl := hpl)
/-- what isinstance asks of an own class -/
structure IsiC (K : PySem.W.Frag) (C : Addr) : Prop where
  cl : Cls K C
  ha : PySem.W.findIn K (.ref C) "__class__" = some (some (.builtin "object.__class__"))
  hn : PySem.W.specialIn K (.builtin "object.__class__") "__get__" = some (some (.builtin "getset_descriptor.__get__"))
  htk : PySem.W.takesIn K (.builtin "object.__class__") = some true
  hm : PySem.W.mroIn K C (.type "object") = some true
theorem ev_isiC {D : Addr} {c : Bool} (hm : X.mg "isinstance" = none) (ha : EV X a ⟨G, O⟩ x O1) (hb : EV X b ⟨G, O1⟩ (.d (.adr D)) O2) (hx : InsAt X.K O2 x C fs) (T : IsiC X.K C) (hk : PySem.W.kitOne X.K (.ref C) (.ref D) = some c) (hg : Gl X "isinstance" := by rfl)
    (he : starEach [a, b] X.env = (false, eval a X.env) :: starEach [b] X.env := by rfl) (he2 : starEach [b] X.env = (false, eval b X.env) :: starEach [] X.env := by rfl) (hpl : (backTo pos (starEach [b] X.env)).any (·.1) = false := by rfl) : EV X (.Call (.Name "isinstance" p) [a, b] [] pos) ⟨G, O⟩ (.d (.bl c)) O2 :=
  ev_blt2 call_isi hm (by decide +kernel) ha hb (fun bd σ H G v w g e1 e2 Q k => by
    obtain ⟨q, dx, ws, rfl, h1, _⟩ := hx bd σ H G v g e1
    exact ⟨_, w, _, _, c, rfl, (by rw [show w = .ref D from e2]; exact .own D), .base (.ins h1 T.cl T.ha T.hn T.htk T.hm), hk, k _ rfl⟩) hg (he := he) (he2 := he2) (hpl := hpl)
/-! ### attributes -/
theorem ev_fld {n : Str} (ha : EV X a ⟨G, O⟩ x O1) (hx : InsAt X.K O1 x C fs) (hc : Cls X.K C) (hn : NoAttr X.K C n) (hl : fs.lookup n = some r) (hb : attributeBase a n X.env (eval a X.env) = eval a X.env := by rfl) : EV X (.Attribute a n pos) ⟨G, O⟩ r O1 :=
  EV.mk fun bd σ H g Q k => toE (pe_fld peE hb) (ha.use g fun v H1 g1 x1 ok => by
    obtain ⟨q, dx, ws, rfl, h1, h2⟩ := hx bd σ H1 G v g1 ok
    obtain ⟨u, h3, h4⟩ := h2.lookup hl
    exact ⟨q, C, dx, ws, u, rfl, h1, hc, hn, h3, k u H1 g1 x1 h4⟩)
theorem ws_fld {n : Str} {v : Expr} {pos' : Pos} {q : Addr} (j : Nat) (hv : EV X v ⟨G, O⟩ r O1) (ha : EV X o ⟨G, O1⟩ (.raw (.ref q)) O2) (hj : O2[j]? = some (q, .ins C fs)) (hc : Cls X.K C) (hn : NoAttr X.K C n) (k : nx ⟨G, O2.set j (q, .ins C (putP n r fs))⟩) (hl : Nat.ble (fs.length + 1) 1000 = true := by rfl)
    (hs : swapsWith v (some (.Attribute o n pos')) pos.line X.env = pure false := by rfl) : WS X (.Assign [.Attribute o n pos'] v pos) ⟨nx, rt, bk, ct, ex⟩ ⟨G, O⟩ := fun bd σ H g D c =>
  toS (ps_fld peE peE hs) (hv.use g fun w H1 g1 x1 ok1 => ha.use g1 fun u H2 g2 x2 ok2 => by
    have ok2 : u = .ref q := ok2
    subst ok2
    obtain ⟨t, h1, dx, ws, rfl, h2⟩ := g2.obj hj
    refine ⟨q, C, dx, ws, rfl, h1, hc, hn, by rw [h2.length]; exact Nat.le_of_ble_eq_true hl, ?_⟩
    exact c.nx _ _ _ (g2.put (o := .ins C (putP n r fs)) hj ⟨dx, _, rfl, h2.putF (ok1.mono x2)⟩).1 k)
/-! ### lists are changed -/
theorem ev_append {q : Addr} {xs : List En} (j : Nat) (ha : EV X a ⟨G, O⟩ (.raw (.ref q)) O1) (hb : EV X b ⟨G, O1⟩ r O2) (h0 : O1[j]? = some (q, .lst xs)) (hj : O2[j]? = some (q, .lst xs)) (hl : xs.length < sizeLine) (hbase : attributeBase a "append" X.env (eval a X.env) = eval a X.env := by rfl)
    (hfew : ((backTo pos (starEach [b] X.env)).all (fun x => !x.1) && (backToKw pos (keywordEach [] X.env)).all (fun x => x.1.isSome) && decide ([b].length + ([] : List Keyword).length + (if ([] : List Keyword).isEmpty then 0 else 1) < 30)) = true := by rfl)
    (hline : (apos.endLine == pos.line) = true := by rfl) (hs : starEach [b] X.env = (false, eval b X.env) :: starEach [] X.env := by rfl) (hplain : (backTo pos (starEach [] X.env)).any (·.1) = false := by rfl) : EV X (.Call (.Attribute a "append" apos) [b] [] pos) ⟨G, O⟩ (.d .non) (O2.set j (q, .lst (xs ++ [r]))) :=
  EV.mk fun bd σ H g Q k => toE (pe_bm PySem.F.plainAttrs_list PySem.F.slot_list_append PySem.F.type_list_append mt_append peE paA hbase hfew hline hs hplain) (ha.use g fun v H1 g1 x1 ok1 => by
    have ok1 : v = .ref q := ok1
    subst ok1
    obtain ⟨t, h1, vs, rfl, h2⟩ := g1.obj h0
    refine ⟨.inl ⟨rfl, _, SqL.of h1⟩, (ea_cons hb ea_nil hs) bd σ H1 g1 _ fun vs2 H2 g2 x2 ⟨w, t2, e1, ok, e2⟩ => ?_⟩
    have e2 : t2 = [] := e2
    subst e1 e2
    obtain ⟨t, h3, ws, rfl, h4⟩ := g2.obj hj
    refine ⟨q, ws, w, rfl, rfl, h3, by rw [h4.length]; exact hl, ?_⟩
    obtain ⟨g3, e3⟩ := g2.put (o := .lst (xs ++ [r])) hj ⟨_, rfl, h4.append (EnsOk.one ok)⟩
    exact k _ _ g3 ((x1.trans x2).trans (e3 ▸ Ext.refl _)) rfl)
theorem ws_setitem {v : Expr} {pos' : Pos} {q : Addr} {xs : List En} {i : Int} {n : Nat} (j : Nat) (hv : EV X v ⟨G, O⟩ r O1) (ha : EV X a ⟨G, O1⟩ (.raw (.ref q)) O2) (hb : EV X b ⟨G, O2⟩ (.d (.int i)) O3) (hj : O3[j]? = some (q, .lst xs)) (hi : ixN xs.length i = some n) (k : nx ⟨G, O3.set j (q, .lst (xs.set n r))⟩)
    (hs : swapsWithSole [.Subscript a b pos'] v pos.line X.env = pure false := by rfl) (hw : swappedStores [.Subscript a b pos'] v X.env = pure none := by rfl)
    (h1 : (assignEach [.Subscript a b pos'] X.env).map (·.2) = [assign (.Subscript a b pos') X.env] := by rfl)
    (hA : ∀ v, assign (.Subscript a b pos') X.env v = (do
      let ov ← holding [v] (eval a X.env)
      let iv ← holding [v, ov] (eval b X.env)
      standAt pos'
      holding [v, ov, iv] (setItem ov iv v)
      release [v, ov, iv] []) := by intro _; rfl) : WS X (.Assign [.Subscript a b pos'] v pos) ⟨nx, rt, bk, ct, ex⟩ ⟨G, O⟩ := fun bd σ H g D c =>
  toS (ps_asg peE (pg_sub peE peE set_list hA) hs hw h1) (hv.use g fun w H1 g1 x1 ok1 => ha.use g1 fun u H2 g2 x2 ok2 => hb.use g2 fun t H3 g3 x3 ok3 => by
    have ok2 : u = .ref q := ok2
    have ok3 : t = .int i := ok3
    subst ok2 ok3
    obtain ⟨t, h3, ws, rfl, h4⟩ := g3.obj hj
    refine ⟨q, ws, i, n, rfl, rfl, h3, by rw [h4.length]; exact hi, ?_⟩
    exact c.nx _ _ _ (g3.put (o := .lst (xs.set n r)) hj ⟨_, rfl, h4.set n ((ok1.mono x2).mono x3)⟩).1 k)
/-- the target xs[i] of an unpacking -/
theorem wg_setitem {q : Addr} {xs : List En} {i : Int} {n : Nat} (j : Nat) (ha : EV X a ⟨G, O⟩ (.raw (.ref q)) O2) (hb : EV X b ⟨G, O2⟩ (.d (.int i)) O3) (hj : O3[j]? = some (q, .lst xs)) (hi : ixN xs.length i = some n)
    (hA : ∀ v, assign (.Subscript a b pos) X.env v = (do
      let ov ← holding [v] (eval a X.env)
      let iv ← holding [v, ov] (eval b X.env)
      standAt pos
      holding [v, ov, iv] (setItem ov iv v)
      release [v, ov, iv] []) := by intro _; rfl) : WG X (.Subscript a b pos) r ⟨G, O⟩ ⟨G, O3.set j (q, .lst (xs.set n r))⟩ := fun bd σ H v g ok1 Q k =>
  toG (pg_sub peE peE set_list hA) (ha.use g fun u H2 g2 x2 ok2 => hb.use g2 fun t H3 g3 x3 ok3 => by
    have ok2 : u = .ref q := ok2
    have ok3 : t = .int i := ok3
    subst ok2 ok3
    obtain ⟨t, h3, ws, rfl, h4⟩ := g3.obj hj
    refine ⟨q, ws, i, n, rfl, rfl, h3, by rw [h4.length]; exact hi, ?_⟩
    obtain ⟨g4, e4⟩ := g3.put (o := .lst (xs.set n r)) hj ⟨_, rfl, h4.set n ((ok1.mono x2).mono x3)⟩
    exact k _ _ g4 ((x2.trans x3).trans (e4 ▸ Ext.refl _)))
/-- a, b = e, any targets -/
theorem ws_unpack {tg v : Expr} {E1 : Env} (hv : EV X v ⟨G, O⟩ r O1) (hg : WG X tg r ⟨G, O1⟩ E1) (k : nx E1) (hs : swapsWithSole [tg] v pos.line X.env = pure false := by rfl) (hw : swappedStores [tg] v X.env = pure none := by rfl)
    (h1 : (assignEach [tg] X.env).map (·.2) = [assign tg X.env] := by rfl) : WS X (.Assign [tg] v pos) ⟨nx, rt, bk, ct, ex⟩ ⟨G, O⟩ := fun bd σ H g D c =>
  toS (ps_asg peE pgG hs hw h1) (hv.use g fun w H1 g1 x1 ok1 => hg bd σ H1 w g1 ok1 _ fun σ' H' g' x' => c.nx _ _ _ g' k)
theorem ws_aug {n : Str} {op : Operator} {rr : R2} {pos' : Pos} (i : Nat) (ho : OpR X (inplaceOp op) rr) (hx : G[i]? = some (some x)) (h : EV X e ⟨G, O⟩ y O1) (hr : OV X.K rr O1 x y z) (k : nx ⟨G.set i (some z), O1⟩) (hN : X.N.Nodup) (hi : X.N[i]? = some n := by rfl) (hl : Loc X.env.scope n := by first | exact Or.inl rfl | exact Or.inr rfl)
    (hf : X.fn n = true ∨ X.env.scope.names.lookup n = some .local := by first | exact .inl rfl | exact .inr rfl) : WS X (.AugAssign (.Name n pos') op e pos) ⟨nx, rt, bk, ct, ex⟩ ⟨G, O⟩ := fun bd σ H g D c =>
  toS (ps_aug hN hi hl peE ho hf) (by
    obtain ⟨v, e1, ok⟩ := g.slot hx
    refine ⟨v, e1, h.use g fun w H1 g1 x1 ok1 => ?_⟩
    exact hr bd σ H1 G v w g1 (ok.mono x1) ok1 _ fun u hu => c.nx _ _ _ (g1.set i hu) k)
theorem ws_augAdd {n : Str} {pos' : Pos} {c d : Int} (i : Nat) (hx : G[i]? = some (some (.d (.int c)))) (h : EV X e ⟨G, O⟩ (.d (.int d)) O1) (k : nx ⟨G.set i (some (.d (.int (c + d)))), O1⟩) (hN : X.N.Nodup) (hi : X.N[i]? = some n := by rfl) (hl : Loc X.env.scope n := by first | exact Or.inl rfl | exact Or.inr rfl)
    (hf : X.fn n = true ∨ X.env.scope.names.lookup n = some .local := by first | exact .inl rfl | exact .inr rfl) : WS X (.AugAssign (.Name n pos') .Add e pos) ⟨nx, rt, bk, ct, ex⟩ ⟨G, O⟩ := ws_aug i iop_add hx h (ov_I0 (z := .int (c + d)) fun _ => rfl) k hN hi hl hf
theorem ws_augSub {n : Str} {pos' : Pos} {c d : Int} (i : Nat) (hx : G[i]? = some (some (.d (.int c)))) (h : EV X e ⟨G, O⟩ (.d (.int d)) O1) (k : nx ⟨G.set i (some (.d (.int (c - d)))), O1⟩) (hN : X.N.Nodup) (hi : X.N[i]? = some n := by rfl) (hl : Loc X.env.scope n := by first | exact Or.inl rfl | exact Or.inr rfl)
    (hf : X.fn n = true ∨ X.env.scope.names.lookup n = some .local := by first | exact .inl rfl | exact .inr rfl) : WS X (.AugAssign (.Name n pos') .Sub e pos) ⟨nx, rt, bk, ct, ex⟩ ⟨G, O⟩ := ws_aug i iop_sub hx h (ov_I0 (z := .int (c - d)) fun _ => rfl) k hN hi hl hf
/-! ### instances, methods -/
/-- a method of the class at C -/
structure Me (P : Program) (w : World) (K : PySem.W.Frag) (mg : Str → Option Value) (base : Heap) (CX : CXT) (k : Nat) (C : Addr) (m : Str) (ps : List Str) (sp : Sp) : Prop where
  ex : ∃ f fd, Meth K C m f ∧ FnOk P w K mg base CX k f fd ps sp ∧ Binds K fd ps []
structure In (P : Program) (w : World) (K : PySem.W.Frag) (mg : Str → Option Value) (base : Heap) (CX : CXT) (k : Nat) (C : Addr) (ps : List Str) (sp : Sp) : Prop where
  ex : ∃ f fd, Mk K C f ∧ FnOk P w K mg base CX k f fd ps sp ∧ Binds K fd ps []
theorem Good.made {bd : Bd} {σ : L2.St} {H : Hp} {q dx : Addr} (g : Good K bd σ H ⟨G, O⟩) (h1 : H q = none) (h2 : H dx = none) (h3 : dx ≠ q) : Good K bd σ (upd (upd H dx (.own q)) q (.ins C dx [])) ⟨G, (q, .ins C []) :: O⟩ ∧ Ext (stab bd.Oc H O) (stab bd.Oc (upd (upd H dx (.own q)) q (.ins C dx [])) ((q, .ins C []) :: O)) := by
  obtain ⟨g1, s1, _⟩ := g.newD (u := .own q) h2
  obtain ⟨g2, x2⟩ := g1.new (o := .ins C []) (u := .ins C dx []) (p := q) (by rw [upd_ne h3.symm]; exact h1) ⟨dx, [], rfl, rfl⟩
  exact ⟨g2, (Ext.of_same s1).trans x2⟩
theorem ew_make {n : Str} (F : In X.prog X.w X.K X.mg X.base CX0 k C ps (S.sp X.K)) (hr : Room (k + 1) X.A) (hmg : X.mg n = some (.ref C)) (i : Addr → ι) (hi : ∀ q, S.dom (i q)) (ha : EA X (e :: es) ⟨G, O⟩ rs O1) (Or : Addr → List OE) (hs : ∀ q, S.args (i q) = .raw (.ref q) :: rs) (hp : ∀ q, ((q, OO.ins C []) :: O1).Perm (S.O0 (i q) ++ Or q)) (hx : ∀ q C fs O', ¬ S.xp (i q) C fs O')
    (hn : ∀ q r O', S.post (i q) r O' → r = .d .non) (hg : Gl X n := by rfl) (hdb : (n == ("__debug__" : Str)) = false := by decide) (he : starEach (e :: es) X.env = (false, eval e X.env) :: starEach es X.env := by rfl) (hpl : (backTo pos (starEach es X.env)).any (·.1) = false := by rfl) :
    EW X (.Call (.Name n p) (e :: es) [] pos) ⟨G, O⟩ fun r O' => ∃ q O2, r = .raw (.ref q) ∧ S.post (i q) (.d .non) O2 ∧ O' = O2 ++ Or q := by
  obtain ⟨f, fd, h1, h2, h4⟩ := F.ex
  intro bd σ H g Q q
  refine toE (pe_make (dvs := []) h1 h2 hr hg hmg h4 .nil pass0 paA hdb he hpl) (ha bd σ H g _ fun vs H1 g1 x1 ok => ?_)
  intro t dx ht hdx ne
  rw [List.append_nil]
  obtain ⟨g2, x2⟩ := g1.made (C := C) ht hdx ne
  have ok2 : EnsOk X.K (stab bd.Oc (upd (upd H1 dx (.own t)) t (.ins C dx [])) ((t, .ins C []) :: O1)) (S.args (i t)) (V.ref t :: vs) := by
    rw [hs]
    exact ⟨.ref t, vs, rfl, rfl, ok.mono x2⟩
  refine ⟨i t, _, hi t, g2.lend (hp t) ok2, fun v H' r O2 hpost g3 => ?_, fun cls d H' C fs O2 h _ _ => hx t C fs O2 h⟩
  obtain rfl := hn t r O2 hpost
  obtain ⟨g4, x4, ok4⟩ := g2.back (hp t) g3
  exact ⟨ok4, q (.ref t) H' (.raw (.ref t)) _ ⟨t, O2, rfl, hpost, rfl⟩ g4 ((x1.trans x2).trans x4) rfl⟩
theorem ew_make0 {n : Str} (F : In X.prog X.w X.K X.mg X.base CX0 k C ps (S.sp X.K)) (hr : Room (k + 1) X.A) (hmg : X.mg n = some (.ref C)) (i : Addr → ι) (hi : ∀ q, S.dom (i q)) (Or : Addr → List OE) (hs : ∀ q, S.args (i q) = [.raw (.ref q)]) (hp : ∀ q, ((q, OO.ins C []) :: O).Perm (S.O0 (i q) ++ Or q)) (hx : ∀ q C fs O', ¬ S.xp (i q) C fs O')
    (hn : ∀ q r O', S.post (i q) r O' → r = .d .non) (hg : Gl X n := by rfl) (hdb : (n == ("__debug__" : Str)) = false := by decide) :
    EW X (.Call (.Name n p) [] [] pos) ⟨G, O⟩ fun r O' => ∃ q O2, r = .raw (.ref q) ∧ S.post (i q) (.d .non) O2 ∧ O' = O2 ++ Or q := by
  obtain ⟨f, fd, h1, h2, h4⟩ := F.ex
  intro bd σ H g Q q
  refine toE (pe_make0 (dvs := []) h1 h2 hr hg hmg h4 .nil pass0 hdb) ?_
  intro t dx ht hdx ne
  obtain ⟨g2, x2⟩ := g.made (C := C) ht hdx ne
  have ok2 : EnsOk X.K (stab bd.Oc (upd (upd H dx (.own t)) t (.ins C dx [])) ((t, .ins C []) :: O)) (S.args (i t)) [V.ref t] := by
    rw [hs]
    exact ⟨.ref t, [], rfl, rfl, rfl⟩
  refine ⟨i t, _, hi t, g2.lend (hp t) ok2, fun v H' r O2 hpost g3 => ?_, fun cls d H' C fs O2 h _ _ => hx t C fs O2 h⟩
  obtain rfl := hn t r O2 hpost
  obtain ⟨g4, x4, ok4⟩ := g2.back (hp t) g3
  exact ⟨ok4, q (.ref t) H' (.raw (.ref t)) _ ⟨t, O2, rfl, hpost, rfl⟩ g4 (x2.trans x4) rfl⟩
/-- C(e, ..) whose fields are laid by __init__ -/
theorem en_make {n : Str} (F : In X.prog X.w X.K X.mg X.base CX0 k C ps (S.sp X.K)) (hr : Room (k + 1) X.A) (hmg : X.mg n = some (.ref C)) (i : Addr → ι) (hi : ∀ q, S.dom (i q)) (ha : EA X (e :: es) ⟨G, O⟩ rs O1) (hs : ∀ q, S.args (i q) = .raw (.ref q) :: rs) (h0 : ∀ q, S.O0 (i q) = [(q, .ins C [])])
    (hn : ∀ q r O', S.post (i q) r O' → r = .d .non ∧ O' = [(q, .ins C fs)]) (hx : ∀ q C fs O', ¬ S.xp (i q) C fs O' := by intro _ _ _ _ h; exact h) (hg : Gl X n := by rfl) (hdb : (n == ("__debug__" : Str)) = false := by decide) (he : starEach (e :: es) X.env = (false, eval e X.env) :: starEach es X.env := by rfl) (hpl : (backTo pos (starEach es X.env)).any (·.1) = false := by rfl) :
    EN X (.Call (.Name n p) (e :: es) [] pos) ⟨G, O⟩ (.ins C fs) O1 :=
  (ew_make F hr hmg i hi ha (fun _ => O1) hs (fun q => by rw [h0]; exact List.Perm.refl _) hx (fun q r O' h => (hn q r O' h).1) hg hdb he hpl).imp fun r O' ⟨q, O2, e1, e2, e3⟩ => ⟨q, e1, by rw [e3, (hn q _ _ e2).2]; rfl⟩
theorem ew_meth {pl : Sem Bool} (F : Me X.prog X.w X.K X.mg X.base CX0 k C m ps (S.sp X.K)) (hr : Room k X.A) (hc : Cls X.K C) (i : ι) (hi : S.dom i) (ho : EV X o ⟨G, O⟩ x O1) (hx : InsAt X.K O1 x C fs) (hl : fs.lookup m = none) (ha : EA X (e :: es) ⟨G, O1⟩ rs O2) (hs : S.args i = x :: rs) (hp : O2.Perm (S.O0 i ++ Or)) (hxp : ∀ C fs O', ¬ S.xp i C fs O')
    (hst : starEach (e :: es) X.env = (false, eval e X.env) :: starEach es X.env := by rfl) (hpl : (backTo pos (starEach es X.env)).any (·.1) = false := by rfl)
    (ht : eval (.Call (.Attribute o m apos) (e :: es) [] pos) X.env = (do
      let ov ← eval o X.env
      standAt apos.atName
      let (f, first) ← holding [ov] (getMethod ov m pl)
      callWith pos f first (backTo pos (starEach (e :: es) X.env)) (backToKw pos (keywordEach [] X.env))) := by rfl) :
    EW X (.Call (.Attribute o m apos) (e :: es) [] pos) ⟨G, O⟩ fun r O' => ∃ O3, S.post i r O3 ∧ O' = O3 ++ Or := by
  obtain ⟨f, fd, h1, h2, h4⟩ := F.ex
  intro bd σ H g Q q
  refine toE (pe_meth (dvs := []) peE hc h1 h2 hr h4 .nil pass0 paA hst hpl ht) (ho.use g fun v H1 g1 x1 ok1 => ?_)
  obtain ⟨t, dx, ws, rfl, h5, h6⟩ := hx bd σ H1 G v g1 ok1
  refine ⟨t, dx, ws, rfl, h5, h6.lookup_none hl, ha bd σ H1 g1 _ fun vs H2 g2 x2 ok2 => ?_⟩
  rw [List.append_nil]
  refine ⟨i, _, hi, g2.lend hp (by rw [hs]; exact ⟨.ref t, vs, rfl, ok1.mono x2, ok2⟩), fun v H' r O3 hpost g3 => ?_, fun cls d H' C fs O3 h _ _ => hxp C fs O3 h⟩
  obtain ⟨g4, x4, ok4⟩ := g2.back hp g3
  exact q v H' r _ ⟨O3, hpost, rfl⟩ g4 ((x1.trans x2).trans x4) ok4
theorem ew_meth0 {pl : Sem Bool} (F : Me X.prog X.w X.K X.mg X.base CX0 k C m ps (S.sp X.K)) (hr : Room k X.A) (hc : Cls X.K C) (i : ι) (hi : S.dom i) (ho : EV X o ⟨G, O⟩ x O1) (hx : InsAt X.K O1 x C fs) (hl : fs.lookup m = none) (hs : S.args i = [x]) (hp : O1.Perm (S.O0 i ++ Or)) (hxp : ∀ C fs O', ¬ S.xp i C fs O')
    (ht : eval (.Call (.Attribute o m apos) [] [] pos) X.env = (do
      let ov ← eval o X.env
      standAt apos.atName
      let (f, first) ← holding [ov] (getMethod ov m pl)
      callWith pos f first (backTo pos (starEach [] X.env)) (backToKw pos (keywordEach [] X.env))) := by rfl) :
    EW X (.Call (.Attribute o m apos) [] [] pos) ⟨G, O⟩ fun r O' => ∃ O3, S.post i r O3 ∧ O' = O3 ++ Or := by
  obtain ⟨f, fd, h1, h2, h4⟩ := F.ex
  intro bd σ H g Q q
  refine toE (pe_meth0 (dvs := []) peE hc h1 h2 hr h4 .nil pass0 ht) (ho.use g fun v H1 g1 x1 ok1 => ?_)
  obtain ⟨t, dx, ws, rfl, h5, h6⟩ := hx bd σ H1 G v g1 ok1
  refine ⟨t, dx, ws, rfl, h5, h6.lookup_none hl, ?_⟩
  refine ⟨i, _, hi, g1.lend hp (by rw [hs]; exact ⟨.ref t, [], rfl, ok1, rfl⟩), fun v H' r O3 hpost g3 => ?_, fun cls d H' C fs O3 h _ _ => hxp C fs O3 h⟩
  obtain ⟨g4, x4, ok4⟩ := g1.back hp g3
  exact q v H' r _ ⟨O3, hpost, rfl⟩ g4 (x1.trans x4) ok4
end
end Lx

namespace Lx
open PySem PySem.Spec PyProof.Rows L2
theorem EN.to {X : Cx} {e : Expr} {G : List (Option En)} {O O' : List OE} {o o' : OO} (h : EN X e ⟨G, O⟩ o O') (e1 : o = o') : EN X e ⟨G, O⟩ o' O' := by
  subst e1
  exact h
theorem EN.toL {X : Cx} {e : Expr} {G : List (Option En)} {O O' : List OE} {o o' : List En} (h : EN X e ⟨G, O⟩ (.lst o) O') (e1 : o = o') : EN X e ⟨G, O⟩ (.lst o') O' := by
  subst e1
  exact h
theorem EW.drop {X : Cx} {e : Expr} {G : List (Option En)} {O : List OE} {P : En → List OE → Prop} (h : EW X e ⟨G, O⟩ P) : EW X e ⟨G, O⟩ fun r O2 => ∃ O1, P r O1 ∧ List.Sublist O2 O1 := h.imp fun _ O1 p => ⟨O1, p, List.Sublist.refl _⟩
theorem EV.drop {X : Cx} {e : Expr} {G : List (Option En)} {O O1 O2 : List OE} {r : En} (h : EV X e ⟨G, O⟩ r O1) (hs : List.Sublist O2 O1) : EV X e ⟨G, O⟩ r O2 := EV.mk fun bd σ H g Q k => h.use g fun v H1 g1 x1 ok => by
  obtain ⟨g2, sm⟩ := g1.drop hs
  exact k v H1 g2 (x1.trans (Ext.of_same sm)) (ok.mono (Ext.of_same sm))
theorem ET.drop {X : Cx} {e : Expr} {G : List (Option En)} {O O1 O2 : List OE} {c : Bool} (h : ET X e ⟨G, O⟩ c O1) (hs : List.Sublist O2 O1) : ET X e ⟨G, O⟩ c O2 := fun bd σ H g Q k => h bd σ H g Q fun H1 g1 x1 => by
  obtain ⟨g2, sm⟩ := g1.drop hs
  exact k H1 g2 (x1.trans (Ext.of_same sm))
section
variable {X : Cx} {G : List (Option En)} {O O2 : List OE} {sts : List Stmt} {nx : Env → Prop} {rt : En → List OE → Prop} {bk ct : Env → Prop} {ex : Addr → List (Str × D) → Env → Prop}
theorem ws_drop (hs : List.Sublist O2 O) (h : WSs X sts ⟨nx, rt, bk, ct, ex⟩ ⟨G, O2⟩) : WSs X sts ⟨nx, rt, bk, ct, ex⟩ ⟨G, O⟩ := ws_weak (fun _ _ _ g => (g.drop hs).1) h
theorem ws_ret_drop {e : Expr} {pos : Pos} {r : En} {O1 : List OE} (h : EV X e ⟨G, O⟩ r O1) (hs : List.Sublist O2 O1) (k : rt r O2) : WS X (.Return (some e) pos) ⟨nx, rt, bk, ct, ex⟩ ⟨G, O⟩ := ws_ret (h.drop hs) k
end
theorem cutD_take {α : Type} {xs : List α} {k : Nat} : cutD xs none (some (k : Int)) = xs.take k := by
  unfold cutD
  rw [HT.sIx_none, HT.sIx_nat, List.drop_zero, Nat.sub_zero]
  rcases Nat.le_total k xs.length with h | h
  · rw [Nat.min_eq_left h]
  · rw [Nat.min_eq_right h, List.take_length, List.take_of_length_le h]
theorem cutD_drop {α : Type} {xs : List α} {k : Nat} : cutD xs (some (k : Int)) none = xs.drop k := by
  unfold cutD
  rw [HT.sIx_none, HT.sIx_nat]
  rcases Nat.le_total k xs.length with h | h
  · rw [Nat.min_eq_left h, List.take_of_length_le (by rw [List.length_drop]; exact Nat.le_refl _)]
  · rw [Nat.min_eq_right h, List.drop_eq_nil_of_le (Nat.le_refl _), List.drop_eq_nil_of_le h, List.take_nil]
end Lx

/-! Code that runs while generators sleep, and does not wake them: it runs as well from a state in which waking one of them sticks; and what it leaves of them is what stood there. -/
namespace Lx
open PySem PySem.Spec PyProof.Rows L2
open Sem (wp)

/-- a sleeper that sticks when it is woken; it looks the same -/
def stuck : GenState → GenState
  | .suspended _ l c p fs cl => .suspended (fun _ => .unsupported "") l c p fs cl
  | x => x
theorem stuck_seen (x : GenState) : (stuck x).seen = x.seen := by cases x <;> rfl
theorem stuck_bare (x : GenState) : (stuck x).bare = x.bare := by cases x <;> rfl
def Sleeper : GenState → Prop
  | .suspended .. => True
  | _ => False
def Stk (G : Array GenState) (i : Nat) : Prop := ∃ x, G[i]? = some x ∧ Sleeper x
/-- t is s, but for the sleepers of G, which stick in t and stand untouched in s -/
structure Pz (G : Array GenState) (s t : Shared) : Prop where
  hp : s.heap = t.heap
  dr : s.drawn = t.drawn
  tk : s.toks = t.toks
  os : s.os = t.os
  sz : s.gens.size = t.gens.size
  gz : G.size ≤ s.gens.size
  stk : ∀ (i : Nat) (x : GenState), G[i]? = some x → Sleeper x → s.gens[i]? = some x ∧ t.gens[i]? = some (stuck x)
  oth : ∀ (i : Nat), ¬ Stk G i → s.gens[i]? = t.gens[i]? ∧ ∀ k l c p fs cl, t.gens[i]? = some (.suspended k l c p fs cl) → splitAtGen fs = none
theorem Pz.start (s : Shared) : Pz s.gens s { s with gens := s.gens.map stuck } where
  hp := rfl
  dr := rfl
  tk := rfl
  os := rfl
  sz := by simp
  gz := Nat.le_refl _
  stk := fun i x h _ => ⟨h, by simp [h]⟩
  oth := fun i hn => by
    cases q : s.gens[i]? with
    | none => exact ⟨by simp [q], fun k l c p fs cl h => by simp [q] at h⟩
    | some x =>
      have hx : ¬ Sleeper x := fun hs => hn ⟨x, q, hs⟩
      have e : stuck x = x := by cases x <;> first | rfl | exact (hx trivial).elim
      refine ⟨by simp [q, e], fun k l c p fs cl h => ?_⟩
      simp [q, e] at h
      subst h
      exact (hx trivial).elim
section
variable {G : Array GenState} {s t : Shared}
theorem Pz.heap (r : Pz G s t) (h : Heap) : Pz G { s with heap := h } { t with heap := h } := ⟨rfl, r.dr, r.tk, r.os, r.sz, r.gz, r.stk, r.oth⟩
theorem Pz.toks (r : Pz G s t) (n : Nat) : Pz G { s with toks := n } { t with toks := n } := ⟨r.hp, r.dr, rfl, r.os, r.sz, r.gz, r.stk, r.oth⟩
theorem Pz.drawn (r : Pz G s t) (n : Drawn) : Pz G { s with drawn := n } { t with drawn := n } := ⟨r.hp, rfl, r.tk, r.os, r.sz, r.gz, r.stk, r.oth⟩
theorem Pz.osd (r : Pz G s t) (n : OsState) : Pz G { s with os := n } { t with os := n } := ⟨r.hp, r.dr, r.tk, rfl, r.sz, r.gz, r.stk, r.oth⟩
theorem Pz.set (r : Pz G s t) {g : Nat} (hg : ¬ Stk G g) {x : GenState} (hx : ∀ k l c p fs cl, x = .suspended k l c p fs cl → splitAtGen fs = none) : Pz G (s.setGen g x) (t.setGen g x) where
  hp := r.hp
  dr := r.dr
  tk := r.tk
  os := r.os
  sz := by show (s.gens.setIfInBounds g x).size = (t.gens.setIfInBounds g x).size; simp [r.sz]
  gz := by show G.size ≤ (s.gens.setIfInBounds g x).size; simp [r.gz]
  stk := fun i y e hs => by
    have ne : g ≠ i := fun z => hg (z ▸ ⟨y, e, hs⟩)
    show (s.gens.setIfInBounds g x)[i]? = _ ∧ (t.gens.setIfInBounds g x)[i]? = _
    rw [Array.getElem?_setIfInBounds_ne ne, Array.getElem?_setIfInBounds_ne ne]
    exact r.stk i y e hs
  oth := fun i hn => by
    show (s.gens.setIfInBounds g x)[i]? = (t.gens.setIfInBounds g x)[i]? ∧ ∀ k l c p fs cl, (t.gens.setIfInBounds g x)[i]? = _ → _
    by_cases ne : g = i
    · subst ne
      rw [Array.getElem?_setIfInBounds, Array.getElem?_setIfInBounds, if_pos rfl, if_pos rfl, r.sz]
      refine ⟨rfl, fun k l c p fs cl h => ?_⟩
      split at h
      · exact hx k l c p fs cl (Option.some.inj h)
      · cases h
    · rw [Array.getElem?_setIfInBounds_ne ne, Array.getElem?_setIfInBounds_ne ne]
      exact r.oth i hn
theorem Pz.push (r : Pz G s t) (x : GenState) (hx : ¬ Sleeper x) : Pz G { s with gens := s.gens.push x } { t with gens := t.gens.push x } where
  hp := r.hp
  dr := r.dr
  tk := r.tk
  os := r.os
  sz := by show (s.gens.push x).size = (t.gens.push x).size; simp [r.sz]
  gz := by show G.size ≤ (s.gens.push x).size; have := r.gz; simp; omega
  stk := fun i y e hs => by
    obtain ⟨h1, h2⟩ := r.stk i y e hs
    have b1 := (Array.getElem?_eq_some_iff.mp h1).1
    have b2 := (Array.getElem?_eq_some_iff.mp h2).1
    show (s.gens.push x)[i]? = _ ∧ (t.gens.push x)[i]? = _
    rw [Array.getElem?_push, Array.getElem?_push, if_neg (Nat.ne_of_lt b1), if_neg (Nat.ne_of_lt b2)]
    exact ⟨h1, h2⟩
  oth := fun i hn => by
    show (s.gens.push x)[i]? = (t.gens.push x)[i]? ∧ ∀ k l c p fs cl, (t.gens.push x)[i]? = _ → _
    rw [Array.getElem?_push, Array.getElem?_push, r.sz]
    by_cases e : i = t.gens.size
    · rw [if_pos e, if_pos e]
      refine ⟨rfl, fun k l c p fs cl h => ?_⟩
      have h := Option.some.inj h
      subst h
      exact (hx trivial).elim
    · rw [if_neg e, if_neg e]
      exact r.oth i hn
/-- what stands at g in t, if it can be woken there, stands in s -/
theorem Pz.at (r : Pz G s t) {g : Nat} {x : GenState} (h : t.gens[g]? = some x) : (s.gens[g]? = some x ∧ ¬ Stk G g) ∨ ∃ y, Sleeper y ∧ x = stuck y := by
  by_cases hk : Stk G g
  · obtain ⟨y, e, hs⟩ := hk
    have := (r.stk g y e hs).2
    rw [h] at this
    exact .inr ⟨y, hs, Option.some.inj this⟩
  · exact .inl ⟨(r.oth g hk).1.trans h, hk⟩
theorem Pz.seen (r : Pz G s t) {g : Nat} {x : GenState} (h : t.gens[g]? = some x) : ∃ y, s.gens[g]? = some y ∧ y.seen = x.seen := by
  by_cases hk : Stk G g
  · obtain ⟨y, e, hs⟩ := hk
    obtain ⟨h1, h2⟩ := r.stk g y e hs
    rw [h] at h2
    exact ⟨y, h1, by rw [Option.some.inj h2, stuck_seen]⟩
  · exact ⟨x, (r.oth g hk).1.trans h, rfl⟩
end

theorem noRun {M : Model} {Γ : PySem.Ctx} {p : Pos} {x : String} {fs : List Frame} {s s' : Shared} {e : End} (h : Runs M Γ p (.unsupported x) fs s e s') : False := by
  have h0 : ∀ {Γ : PySem.Ctx} {p : Pos} {s s' : Shared} {e : End}, Runs M Γ p (.unsupported x) [] s e s' → False := fun h => by cases h
  cases h with
  | segRet h _ => exact h0 h
  | segGen h _ => exact h0 h
  | segSuspOut _ h => exact h0 h
  | segSuspGen _ h _ _ => exact h0 h

theorem split_append : ∀ {fs gs : List Frame}, splitAtGen fs = none → splitAtGen gs = none → splitAtGen (fs ++ gs) = none
  | [], _, _, h => h
  | .gen .. :: _, _, h, _ => by cases h
  | .ret .. :: fs, gs, h, h2 => by
    have e : splitAtGen fs = none := by
      unfold splitAtGen at h
      cases q : splitAtGen fs with
      | none => rfl
      | some y => rw [q] at h; cases h
    show (splitAtGen (fs ++ gs)).map _ = none
    rw [split_append e h2]
    rfl
theorem split_tail {F : Frame} {fs : List Frame} (h : splitAtGen (F :: fs) = none) : splitAtGen fs = none := by
  cases F with
  | gen => cases h
  | ret =>
    unfold splitAtGen at h
    cases q : splitAtGen fs with
    | none => rfl
    | some y => rw [q] at h; cases h
/-- what sleeps has no other generator's call between its frames -/
theorem susp_clean {M : Model} {Γ : PySem.Ctx} {p : Pos} {t : Sem PySem.Fin} {fs : List Frame} {s s' : Shared} {e : End} (h : Runs M Γ p t fs s e s') :
    ∀ v g l k c p0 fs0, e = .susp v g l k c p0 fs0 → splitAtGen fs0 = none := by
  induction h with
  | done => intro v g l k c p0 fs0 e; cases e
  | raise => intro v g l k c p0 fs0 e; cases e
  | callSusp _ ih => intro v g l k c p0 fs0 e; cases e; exact split_append (ih _ _ _ _ _ _ _ rfl) rfl
  | yield => intro v g l k c p0 fs0 e; cases e; rfl
  | segSuspOut hs _ ih => intro v g l k c p0 fs0 e; cases e; exact split_append (ih _ _ _ _ _ _ _ rfl) hs
  | again _ _ ih => exact ih
  | rule _ ih => exact ih
  | «at» _ ih => exact ih
  | load _ _ ih => exact ih
  | update _ _ ih => exact ih
  | loadIfAlive _ ih => exact ih
  | point _ ih => exact ih
  | alloc _ ih => exact ih
  | fresh _ ih => exact ih
  | ask _ ih => exact ih
  | choose _ _ ih => exact ih
  | «os» _ ih => exact ih
  | handled _ ih => exact ih
  | genState _ _ ih => exact ih
  | stack _ ih => exact ih
  | thread _ ih => exact ih
  | newGen _ ih => exact ih
  | call _ _ _ ih => exact ih
  | resumeFresh _ _ _ _ _ ih => exact ih
  | resumeSuspended _ _ _ _ _ ih => exact ih
  | resumeJustStarted _ _ _ ih => exact ih
  | resumeThrowFresh _ _ ih => exact ih
  | resumeRunning _ _ ih => exact ih
  | resumeFinished _ _ ih => exact ih
  | segRet _ _ _ ih => exact ih
  | segGen _ _ _ ih => exact ih
  | segSuspGen _ _ _ _ _ ih => exact ih
theorem genState_clean {M : Model} {Γ : PySem.Ctx} {p : Pos} {t : Sem PySem.Fin} {fs : List Frame} {s s' : Shared} {e : End} (h : Runs M Γ p t fs s e s') :
    ∀ k l c p0 fs0 cl, e.genState = .suspended k l c p0 fs0 cl → splitAtGen fs0 = none := by
  intro k l c p0 fs0 cl q
  cases e with
  | ret r => cases r <;> cases q
  | susp v g l0 k0 c0 p1 fs1 =>
    cases q
    exact susp_clean h _ _ _ _ _ _ _ rfl
/-- THE THEOREM -/
theorem runs_pz {M : Model} {G : Array GenState} {Γ : PySem.Ctx} {p : Pos} {t : Sem PySem.Fin} {fs : List Frame} {sp sp' : Shared} {e : End} (h : Runs M Γ p t fs sp e sp') :
    splitAtGen fs = none → ∀ s, Pz G s sp → ∃ s', Pz G s' sp' ∧ Runs M Γ p t fs s e s' := by
  induction h with
  | done => exact fun _ s r => ⟨s, r, .done⟩
  | raise => exact fun _ s r => ⟨s, r, .raise⟩
  | again hq _ ih => exact fun _ s r => let ⟨s', r', h⟩ := ih rfl s r; ⟨s', r', .again hq h⟩
  | rule _ ih => exact fun _ s r => let ⟨s', r', h⟩ := ih rfl s r; ⟨s', r', .rule h⟩
  | «at» _ ih => exact fun _ s r => let ⟨s', r', h⟩ := ih rfl s r; ⟨s', r', .at h⟩
  | load ho _ ih => exact fun _ s r => let ⟨s', r', h⟩ := ih rfl s r; ⟨s', r', .load (by rw [r.hp]; exact ho) h⟩
  | update ha _ ih =>
      intro _ s r
      obtain ⟨s', r', h⟩ := ih rfl _ (r.heap _)
      exact ⟨s', r', .update (by rw [r.hp]; exact ha) (by rw [r.hp]; exact h)⟩
  | loadIfAlive _ ih => exact fun _ s r => let ⟨s', r', h⟩ := ih rfl s r; ⟨s', r', .loadIfAlive (by rw [r.hp]; exact h)⟩
  | point _ ih => exact fun _ s r => let ⟨s', r', h⟩ := ih rfl s r; ⟨s', r', .point h⟩
  | alloc _ ih =>
      intro _ s r
      obtain ⟨s', r', h⟩ := ih rfl _ (r.heap _)
      exact ⟨s', r', .alloc (by rw [r.hp]; exact h)⟩
  | fresh _ ih =>
      intro _ s r
      obtain ⟨s', r', h⟩ := ih rfl _ (r.toks _)
      exact ⟨s', r', .fresh (by rw [r.tk]; exact h)⟩
  | ask _ ih => exact fun _ s r => let ⟨s', r', h⟩ := ih rfl s r; ⟨s', r', .ask h⟩
  | choose hn _ ih =>
      intro _ s r
      obtain ⟨s', r', h⟩ := ih rfl _ (r.drawn _)
      exact ⟨s', r', .choose hn (by rw [r.dr]; exact h)⟩
  | os _ ih =>
      intro _ s r
      obtain ⟨s', r', h⟩ := ih rfl _ (r.osd _)
      exact ⟨s', r', .os (by rw [r.os]; exact h)⟩
  | handled _ ih => exact fun _ s r => let ⟨s', r', h⟩ := ih rfl s r; ⟨s', r', .handled h⟩
  | genState hg _ ih =>
      intro _ s r
      obtain ⟨y, hy, es⟩ := r.seen hg
      obtain ⟨s', r', h⟩ := ih rfl s r
      exact ⟨s', r', .genState hy (by rw [es]; exact h)⟩
  | stack _ ih => exact fun _ s r => let ⟨s', r', h⟩ := ih rfl s r; ⟨s', r', .stack h⟩
  | thread _ ih => exact fun _ s r => let ⟨s', r', h⟩ := ih rfl s r; ⟨s', r', .thread h⟩
  | newGen _ ih =>
      intro _ s r
      obtain ⟨s', r', h⟩ := ih rfl _ (r.push _ (fun z => z))
      exact ⟨s', r', .newGen (by rw [r.sz]; exact h)⟩
  | call _ _ ih1 ih2 =>
      intro _ s r
      obtain ⟨s1, r1, h1⟩ := ih1 rfl s r
      obtain ⟨s2, r2, h2⟩ := ih2 rfl s1 r1
      exact ⟨s2, r2, .call h1 h2⟩
  | callSusp _ ih => exact fun _ s r => let ⟨s', r', h⟩ := ih rfl s r; ⟨s', r', .callSusp h⟩
  | yield => exact fun _ s r => ⟨s, r, .yield⟩
  | resumeFresh hg h1 hq _ ih1 ih2 =>
      intro _ s r
      rcases r.at hg with ⟨hg', nk⟩ | ⟨y, hs, e⟩
      · obtain ⟨s1, r1, k1⟩ := ih1 rfl _ (r.set nk fun _ _ _ _ _ _ z => by cases z)
        obtain ⟨s2, r2, k2⟩ := ih2 rfl _ (r1.set nk (genState_clean h1))
        exact ⟨s2, r2, .resumeFresh hg' k1 hq k2⟩
      · cases y <;> first | exact hs.elim | cases e
  | resumeSuspended hg h1 hq _ ih1 ih2 =>
      intro _ s r
      rcases r.at hg with ⟨hg', nk⟩ | ⟨y, hs, e⟩
      · obtain ⟨s1, r1, k1⟩ := ih1 ((r.oth _ nk).2 _ _ _ _ _ _ hg) _ (r.set nk fun _ _ _ _ _ _ z => by cases z)
        obtain ⟨s2, r2, k2⟩ := ih2 rfl _ (r1.set nk (genState_clean h1))
        exact ⟨s2, r2, .resumeSuspended hg' k1 hq k2⟩
      · cases y with
        | suspended =>
          cases e
          exact (noRun h1).elim
        | _ => exact hs.elim
  | resumeJustStarted hg hv _ ih =>
      intro _ s r
      rcases r.at hg with ⟨hg', nk⟩ | ⟨y, hs, e⟩
      · obtain ⟨s', r', h⟩ := ih rfl s r
        exact ⟨s', r', .resumeJustStarted hg' hv h⟩
      · cases y <;> first | exact hs.elim | cases e
  | resumeThrowFresh hg _ ih =>
      intro _ s r
      rcases r.at hg with ⟨hg', nk⟩ | ⟨y, hs, e⟩
      · obtain ⟨s', r', h⟩ := ih rfl _ (r.set nk fun _ _ _ _ _ _ z => by cases z)
        exact ⟨s', r', .resumeThrowFresh hg' h⟩
      · cases y <;> first | exact hs.elim | cases e
  | resumeRunning hg _ ih =>
      intro _ s r
      rcases r.at hg with ⟨hg', nk⟩ | ⟨y, hs, e⟩
      · obtain ⟨s', r', h⟩ := ih rfl s r
        exact ⟨s', r', .resumeRunning hg' h⟩
      · cases y <;> first | exact hs.elim | cases e
  | resumeFinished hg _ ih =>
      intro _ s r
      rcases r.at hg with ⟨hg', nk⟩ | ⟨y, hs, e⟩
      · obtain ⟨s', r', h⟩ := ih rfl s r
        exact ⟨s', r', .resumeFinished hg' h⟩
      · cases y <;> first | exact hs.elim | cases e
  | segRet _ _ ih1 ih2 =>
      intro hf s r
      obtain ⟨s1, r1, h1⟩ := ih1 rfl s r
      obtain ⟨s2, r2, h2⟩ := ih2 (split_tail hf) s1 r1
      exact ⟨s2, r2, .segRet h1 h2⟩
  | segGen _ _ _ _ => exact fun hf => by cases hf
  | segSuspOut hs _ ih => exact fun _ s r => let ⟨s', r', h⟩ := ih rfl s r; ⟨s', r', .segSuspOut hs h⟩
  | segSuspGen hs _ _ _ _ _ => exact fun hf => by rw [hs] at hf; cases hf
theorem returns_pz {M : Model} {G : Array GenState} {Γ : PySem.Ctx} {p : Pos} {s sp sp' : Shared} {r : Result} (h : Returns M Γ p sp r sp') (z : Pz G s sp) : ∃ s', Pz G s' sp' ∧ Returns M Γ p s r s' := runs_pz h rfl s z
theorem wakes_pz {M : Model} {G : Array GenState} {Γ : PySem.Ctx} {p : Pos} {g : Nat} {r : Resume} {s sp sp' : Shared} {res : GenResult} (h : Wakes M Γ p g r sp res sp') (z : Pz G s sp) : ∃ s', Pz G s' sp' ∧ Wakes M Γ p g r s res s' := by
  unfold Wakes at h
  cases hg : sp.gens[g]? with
  | none => rw [hg] at h; exact h.elim
  | some x =>
    rw [hg] at h
    rcases z.at hg with ⟨hg', nk⟩ | ⟨y, hs, e⟩
    · cases x with
      | fresh c =>
        cases r with
        | send v =>
          by_cases hv : v = .none
          · subst hv
            obtain ⟨e1, s1, hr, hq, h1, h2⟩ := h
            obtain ⟨s2, z2, k2⟩ := runs_pz hr rfl _ (z.set nk fun _ _ _ _ _ _ q => by cases q)
            refine ⟨_, by rw [h2]; exact z2.set nk (genState_clean hr), ?_⟩
            unfold Wakes
            rw [hg']
            exact ⟨e1, s2, k2, hq, h1, rfl⟩
          · have h' : res = .justStarted ∧ sp' = sp := by cases v <;> first | exact absurd rfl hv | exact h
            refine ⟨s, by rw [h'.2]; exact z, ?_⟩
            rw [h'.1]
            exact Sem.wakes_justStarted M Γ hg' hv
        | throw x =>
          refine ⟨s.setGen g .finished, by rw [h.2]; exact z.set nk fun _ _ _ _ _ _ q => (by cases q), ?_⟩
          unfold Wakes
          rw [hg']
          exact ⟨h.1, rfl⟩
      | suspended k l c p0 fs cl =>
        obtain ⟨e1, s1, hr, hq, h1, h2⟩ := h
        obtain ⟨s2, z2, k2⟩ := runs_pz hr ((z.oth _ nk).2 _ _ _ _ _ _ hg) _ (z.set nk fun _ _ _ _ _ _ q => by cases q)
        refine ⟨_, by rw [h2]; exact z2.set nk (genState_clean hr), ?_⟩
        unfold Wakes
        rw [hg']
        exact ⟨e1, s2, k2, hq, h1, rfl⟩
      | running =>
        refine ⟨s, by rw [h.2]; exact z, ?_⟩
        unfold Wakes
        rw [hg']
        exact ⟨h.1, rfl⟩
      | finished =>
        refine ⟨s, by rw [h.2]; exact z, ?_⟩
        unfold Wakes
        rw [hg']
        exact ⟨h.1, rfl⟩
    · subst e
      cases y with
      | suspended =>
        obtain ⟨_, _, hr, _⟩ := h
        exact (noRun hr).elim
      | _ => exact hs.elim
theorem wp_pz {α : Type} {M : Model} {G : Array GenState} {Γ : PySem.Ctx} (t : Sem α) : ∀ {Q : α → Pos → Shared → Prop} {E : Value → Pos → Shared → Prop} {p : Pos} {s sp : Shared}, Pz G s sp → wp M Γ t Q E p sp →
    wp M Γ t (fun a p' s' => ∃ sp', Pz G s' sp' ∧ Q a p' sp') (fun e p' s' => ∃ sp', Pz G s' sp' ∧ E e p' sp') p s := by
  induction t with
  | pure a => intro Q E p s sp z h; exact ⟨sp, z, h⟩
  | raise e => intro Q E p s sp z h; exact ⟨sp, z, h⟩
  | unsupported _ => intro Q E p s sp z h; exact h
  | finish _ => intro Q E p s sp z h; exact h
  | rule _ k ih => intro Q E p s sp z h; exact ih () z h
  | «at» p' k ih => intro Q E p s sp z h; exact ih () z h
  | load a _ k ih => intro Q E p s sp z h; obtain ⟨o, ho, h⟩ := h; exact ⟨o, by rw [z.hp]; exact ho, ih o z h⟩
  | update a _ f k ih =>
    intro Q E p s sp z h
    refine ⟨by rw [z.hp]; exact h.1, ?_⟩
    rw [z.hp]
    exact ih () (z.heap _) h.2
  | loadIfAlive a k ih =>
    intro Q E p s sp z h
    show wp M Γ (k (s.heap.get? a)) _ _ p s
    rw [z.hp]
    exact ih _ z h
  | point _ k ih => intro Q E p s sp z h; exact ih () z h
  | register _ _ => intro Q E p s sp z h; exact h
  | alloc o k ih =>
    intro Q E p s sp z h
    show wp M Γ (k s.heap.objs.size) _ _ p { s with heap := s.heap.push o }
    rw [z.hp]
    exact ih _ (z.heap _) h
  | fresh k ih =>
    intro Q E p s sp z h
    show wp M Γ (k s.toks) _ _ p { s with toks := s.toks + 1 }
    rw [z.tk]
    exact ih _ (z.toks _) h
  | ask k ih => intro Q E p s sp z h; exact ih _ z h
  | choose src m k ih =>
    intro Q E p s sp z h
    refine ⟨h.1, ?_⟩
    rw [z.dr]
    exact ih _ (z.drawn _) h.2
  | «os» q _ k ih =>
    intro Q E p s sp z h
    show wp M Γ (k (Os.step s.os q).2) _ _ p { s with os := (Os.step s.os q).1 }
    rw [z.os]
    exact ih _ (z.osd _) h
  | call c hd _ _ k ih =>
    intro Q E p s sp z h
    obtain ⟨r, s', hr, h⟩ := h
    obtain ⟨s2, z2, k2⟩ := returns_pz hr z
    exact ⟨r, s2, k2, ih r z2 h⟩
  | handled own k ih => intro Q E p s sp z h; exact ih _ z h
  | genState g k ih =>
    intro Q E p s sp z h
    obtain ⟨st, hs, h⟩ := h
    obtain ⟨y, hy, es⟩ := z.seen hs
    exact ⟨y, hy, by rw [es]; exact ih _ z h⟩
  | newGen c k ih =>
    intro Q E p s sp z h
    show wp M Γ (k s.gens.size) _ _ p { s with gens := s.gens.push (.fresh c) }
    rw [z.sz]
    exact ih _ (z.push _ (fun q => q)) h
  | resume g r _ k ih =>
    intro Q E p s sp z h
    obtain ⟨res, s', hw, h⟩ := h
    obtain ⟨s2, z2, k2⟩ := wakes_pz hw z
    exact ⟨res, s2, k2, ih res z2 h⟩
  | yield _ _ _ _ => intro Q E p s sp z h; exact h
  | stack k ih => intro Q E p s sp z h; exact ih _ z h
  | fork _ _ => intro Q E p s sp z h; exact h
  | thread k ih => intro Q E p s sp z h; exact ih _ z h
  | await _ _ _ _ _ => intro Q E p s sp z h; exact h
/-- code that does not need the sleepers leaves them alone -/
theorem wpAny_pz {α : Type} {M : Model} {A : Around} {t : Sem α} {Q : α → Shared → Prop} {E : Value → Shared → Prop} {s : Shared} (h : wpAny M A t Q E { s with gens := s.gens.map stuck }) :
    wpAny M A t (fun a s' => ∃ sp', Pz s.gens s' sp' ∧ Q a sp') (fun e s' => ∃ sp', Pz s.gens s' sp' ∧ E e sp') s := fun Γ p hΓ => wp_pz t (Pz.start s) (h Γ p hΓ)
theorem Pz.eq {G : Array GenState} {s t : Shared} (z : Pz G s t) : s = { t with gens := s.gens } := by
  obtain ⟨h, g, d, k, o⟩ := s
  obtain ⟨h', g', d', k', o'⟩ := t
  have h1 := z.hp
  have h2 := z.dr
  have h3 := z.tk
  have h4 := z.os
  dsimp only at h1 h2 h3 h4
  subst h1 h2 h3 h4
  rfl
theorem allBare_stuck {G : Array GenState} (h : AllBare G) : AllBare (G.map stuck) := fun x hx => by
  obtain ⟨y, hy, rfl⟩ := Array.mem_map.mp hx
  rw [stuck_bare]
  exact h y hy
theorem Pz.bare {G : Array GenState} {s t : Shared} (z : Pz G s t) (hG : AllBare G) (h : AllBare t.gens) : AllBare s.gens := fun x hx => by
  obtain ⟨i, hi, e⟩ := Array.mem_iff_getElem.mp hx
  have q : s.gens[i]? = some x := by rw [Array.getElem?_eq_getElem hi, e]
  by_cases hk : Stk G i
  · obtain ⟨y, e, hs⟩ := hk
    have := (z.stk i y e hs).1
    rw [q] at this
    cases this
    exact hG _ (Array.mem_of_getElem? e)
  · rw [(z.oth i hk).1] at q
    exact h x (Array.mem_of_getElem? q)
theorem Pz.keeps {G : Array GenState} {s t : Shared} (z : Pz G s t) {g : Nat} {x : GenState} (h : G[g]? = some x) (hx : Sleeper x) : s.gens[g]? = some x := (z.stk g x h hx).1
end Lx

/-! A generator's body, by what it hands out: it sleeps between, and the one who wakes it may have done anything that leaves its own things alone. -/
namespace Lx
open PySem PySem.Spec PyProof.Rows L2 GenW
open Sem (wp)

/-! ### one stretch of a generator's run -/
def SegX (M : Model) (A : Around) (Φ : End → Shared → Prop) (c : Code) (t : Sem PySem.Fin) (fs : List Frame) (s : Shared) : Prop :=
  ∀ (Γ : PySem.Ctx) (p : Pos), Γ.code = c → Γ.Woken A → ∃ e s', Runs M Γ p t fs s e s' ∧ Φ e s'
section
variable {M : Model} {A : Around} {Φ : End → Shared → Prop} {c : Code} {fs : List Frame} {s : Shared}
theorem sx_wrap {α : Type} {m : Sem α} {K : α → Sem PySem.Fin} {J : Value → Sem PySem.Fin} {gd : Bool → Bool} {lv : List Value → List Value} (h : wpAny M (A.over c fs) m (fun a s' => SegX M A Φ c (K a) fs s') (fun x s' => SegX M A Φ c (J x) fs s') s) : SegX M A Φ c (m.wrap K J gd lv) fs s := by
  intro Γ p hc hw
  subst hc
  exact runs_wrap_of_wp K J gd lv m (h _ p (hw.over fs)) (fun a q s' k => k Γ q rfl hw) fun x q s' k => k Γ q rfl hw
theorem sx_at {p' : Pos} {k : Unit → Sem PySem.Fin} (h : SegX M A Φ c (k ()) fs s) : SegX M A Φ c (.at p' k) fs s :=
  sx_wrap (m := standAt p') (K := k) (J := .raise) (gd := id) (lv := id) (wpAny_standAt h)
theorem sx_point {l : List Value} {k : Unit → Sem PySem.Fin} (h : SegX M A Φ c (k ()) fs s) : SegX M A Φ c (.point l k) fs s :=
  sx_wrap (m := point) (K := k) (J := .raise) (gd := id) (lv := fun _ => l) (wpAny_point h)
theorem sx_call {c' : Code} {h : Option Value} {g : Bool} {l : List Value} {k : Result → Sem PySem.Fin} (hc : ∀ p, SegX M A Φ c' (M.den c') (.ret k h g l c p [] :: fs) s) : SegX M A Φ c (.call c' h g l k) fs s := by
  intro Γ p e hw
  subst e
  obtain ⟨e, s', hr, he⟩ := hc p (Γ.goto c') p rfl (hw.goto c')
  exact ⟨e, s', runs_call_seg hr, he⟩
theorem sx_leaf {k : Result → Sem PySem.Fin} {h : Option Value} {g : Bool} {l : List Value} {c1 : Code} {p1 : Pos} {kp : List Value} (r : Result) (hk : SegX M A Φ c1 (k r) fs s) : SegX M A Φ c (leafOf r) (.ret k h g l c1 p1 kp :: fs) s := by
  intro Γ p e hw
  obtain ⟨e, s', hr, he⟩ := hk (Γ.goto c1) p1 rfl (hw.goto c1)
  exact ⟨e, s', Runs.pop r hr, he⟩
theorem sx_again {c' : Code} (hq : c'.quiet = true) (hc : SegX M A Φ c' (M.den c') fs s) : SegX M A Φ c (.pure (.again c')) fs s := by
  intro Γ p e hw
  obtain ⟨e, s', hr, he⟩ := hc (Γ.goto c') p rfl (hw.goto c')
  exact ⟨e, s', Runs.head (c₁ := c') (fun _ _ x => .again hq x) hr, he⟩
theorem sx_end (r : Result) (h : Φ (.ret r) s) : SegX M A Φ c (leafOf r) [] s := fun Γ p _ _ => ⟨.ret r, s, Runs.leaf r, h⟩
theorem sx_yield {v : Value} {g : Bool} {l : List Value} {k : Resume → Sem PySem.Fin} (hfs : splitAtGen fs = none) (h : ∀ p, Φ (.susp v g l k c p fs) s) : SegX M A Φ c (.yield v g l k) fs s := by
  intro Γ p e hw
  subst e
  exact ⟨_, s, Runs.yield' fs hfs, h p⟩
end

/-! ### a generator's frame -/
structure GP where
  P : Program
  w : World
  K : PySem.W.Frag
  mg : Str → Option Value
  base : Heap
  N : List Str
  qual : Str
  scope : Scope
  f : Addr
  cdv : Value
  A : Around
  outer : List PySem.Env
  n : Addr
  a : Addr
abbrev GP.env (g : GP) : PySem.Env := envOfC g.qual g.scope g.n g.f g.cdv
/-- the context of a stretch: s, H: what stood when the frame was made (only what is below it counts) -/
def gX (g : GP) (s : Shared) (H : Hp) : Cx where
  prog := g.P
  w := g.w
  K := g.K
  mg := g.mg
  base := g.base
  A := g.A.deeper g.env
  N := g.N
  s_0 := s
  H_0 := H
  env := g.env
  outer := g.outer
  stack := g.env :: g.outer
  ex := []
  calm := true
  fn := fun _ => true
  pn := []
  xe := fun _ _ => False
abbrev Item := En → List OE → Prop
/-- one thing comes out: a value and new owned things -/
structure Out (g : GP) (it : Item) (s_0 : Shared) (H_0 : Hp) (bd : Bd) (v : Value) (s' : Shared) (E' : Env) (pins' : List (Addr × Obj)) : Prop where
  lo : ∀ p ∈ pins', g.n < p.1 ∧ p.1 ≠ g.a
  ex : ∃ r N σ' H' u, it r N ∧ Inv (gX g s_0 H_0) pins' σ' H' s' ∧ Good g.K bd σ' H' ⟨E'.G, N ++ E'.O⟩ ∧ RelV u v ∧ EnOk g.K (stab bd.Oc H' (N ++ E'.O)) r u
def Phi (g : GP) (fin : List OE → Prop) : List Item → Shared → Hp → Bd → End → Shared → Prop
  | [], s_0, H_0, bd, e, s' => (e = .ret (.ok (.ret .none)) ∨ e = .ret (.ok .next)) ∧ ∃ E' pins' σ' H', Inv (gX g s_0 H_0) pins' σ' H' s' ∧ Good g.K bd σ' H' E' ∧ fin E'.O
  | it :: its, s_0, H_0, bd, e, s' => ∃ v gd l k c p fs E' pins', e = .susp v gd l k c p fs ∧ (gd || fs.any Frame.guarded) = false ∧ Out g it s_0 H_0 bd v s' E' pins' ∧
      ∀ (s_1 : Shared) (H_1 : Hp) (bd1 : Bd) (σ : L2.St) (H : Hp) (s : Shared), s_1.heap.objs.size = g.n → Inv (gX g s_1 H_1) pins' σ H s → Good g.K bd1 σ H E' → SegX (model g.P g.w) g.A (Phi g fin its s_1 H_1 bd1) c (k (.send .none)) fs s
/-- it sleeps: woken by anyone who left its things alone it does what is promised -/
def Sleeps (g : GP) (fin : List OE → Prop) (its : List Item) (c : Code) (t : Sem PySem.Fin) (fs : List Frame) (pins : List (Addr × Obj)) (E : Env) : Prop :=
  ∀ (s_1 : Shared) (H_1 : Hp) (bd1 : Bd) (σ : L2.St) (H : Hp) (s : Shared), s_1.heap.objs.size = g.n → Inv (gX g s_1 H_1) pins σ H s → Good g.K bd1 σ H E → SegX (model g.P g.w) g.A (Phi g fin its s_1 H_1 bd1) c t fs s
section
variable {g : GP} {fin : List OE → Prop} {its : List Item} {c : Code} {t : Sem PySem.Fin} {fs : List Frame} {pins : List (Addr × Obj)} {E : Env}
theorem sl_at {p' : Pos} {k : Unit → Sem PySem.Fin} (h : Sleeps g fin its c (k ()) fs pins E) : Sleeps g fin its c (.at p' k) fs pins E := fun s_1 H_1 bd σ H s hs I gd => sx_at (h s_1 H_1 bd σ H s hs I gd)
theorem sl_point {l : List Value} {k : Unit → Sem PySem.Fin} (h : Sleeps g fin its c (k ()) fs pins E) : Sleeps g fin its c (.point l k) fs pins E := fun s_1 H_1 bd σ H s hs I gd => sx_point (h s_1 H_1 bd σ H s hs I gd)
theorem sl_call {c' : Code} {h : Option Value} {gd : Bool} {l : List Value} {k : Result → Sem PySem.Fin} (hc : ∀ p, Sleeps g fin its c' ((model g.P g.w).den c') (.ret k h gd l c p [] :: fs) pins E) : Sleeps g fin its c (.call c' h gd l k) fs pins E :=
  fun s_1 H_1 bd σ H s hs I gd => sx_call fun p => hc p s_1 H_1 bd σ H s hs I gd
theorem sl_leaf {k : Result → Sem PySem.Fin} {h : Option Value} {gd : Bool} {l : List Value} {c1 : Code} {p1 : Pos} {kp : List Value} (r : Result) (hk : Sleeps g fin its c1 (k r) fs pins E) : Sleeps g fin its c (leafOf r) (.ret k h gd l c1 p1 kp :: fs) pins E :=
  fun s_1 H_1 bd σ H s hs I gd => sx_leaf r (hk s_1 H_1 bd σ H s hs I gd)
theorem sl_again {c' : Code} (hq : c'.quiet = true) (hc : Sleeps g fin its c' ((model g.P g.w).den c') fs pins E) : Sleeps g fin its c (.pure (.again c')) fs pins E :=
  fun s_1 H_1 bd σ H s hs I gd => sx_again hq (hc s_1 H_1 bd σ H s hs I gd)
end

/-! ### statements -/
structure GC (g : GP) (pins : List (Addr × Obj)) (c : Code) (fs : List Frame) (gd : Bool → Bool) : Prop where
  over : g.A.over c fs = g.A.deeper g.env
  split : splitAtGen fs = none
  guard : fs.any Frame.guarded = false
  gd : gd false = false
  pn : ∀ p ∈ pins, g.n < p.1 ∧ p.1 ≠ g.a
structure GPost where
  nx : List Item → Env → Prop
  bk : List Item → Env → Prop := fun _ _ => False
  ct : List Item → Env → Prop := fun _ _ => False
  rt : List Item → Env → Prop := fun _ _ => False
def GPost.at (P : GPost) : Flow → List Item → Env → Prop
  | .next => P.nx
  | .brk => P.bk
  | .cont => P.ct
  | .ret u => fun its E => u = .none ∧ P.rt its E
def GW (g : GP) (fin : List OE → Prop) (pins : List (Addr × Obj)) (st : Stmt) (P : GPost) (its : List Item) (E : Env) : Prop :=
  ∀ (c : Code) (fs : List Frame) (K : Flow → Sem PySem.Fin) (J : Value → Sem PySem.Fin) (gd : Bool → Bool) (lv : List Value → List Value), GC g pins c fs gd → (∀ f its' E', P.at f its' E' → Sleeps g fin its' c (K f) fs pins E') → Sleeps g fin its c ((exec st g.env).wrap K J gd lv) fs pins E
def GWs (g : GP) (fin : List OE → Prop) (pins : List (Addr × Obj)) (st : List Stmt) (P : GPost) (its : List Item) (E : Env) : Prop :=
  ∀ (c : Code) (fs : List Frame) (K : Flow → Sem PySem.Fin) (J : Value → Sem PySem.Fin) (gd : Bool → Bool) (lv : List Value → List Value), GC g pins c fs gd → (∀ f its' E', P.at f its' E' → Sleeps g fin its' c (K f) fs pins E') → Sleeps g fin its c ((execs st g.env).wrap K J gd lv) fs pins E
section
variable {g : GP} {fin : List OE → Prop} {pins : List (Addr × Obj)} {st : Stmt} {sts : List Stmt} {its : List Item} {nx bk ct rt : List Item → Env → Prop} {G : List (Option En)} {O : List OE} {pos : Pos}
theorem gw_nil (h : nx its ⟨G, O⟩) : GWs g fin pins [] ⟨nx, bk, ct, rt⟩ its ⟨G, O⟩ := fun c fs K J gd lv gc k => k .next its _ h
theorem gw_cons (h : GW g fin pins st ⟨fun i E' => GWs g fin pins sts ⟨nx, bk, ct, rt⟩ i E', bk, ct, rt⟩ its ⟨G, O⟩) : GWs g fin pins (st :: sts) ⟨nx, bk, ct, rt⟩ its ⟨G, O⟩ := fun c fs K J gd lv gc k => by
  rw [execs_cons_wrap]
  refine h c fs _ J gd lv gc fun f i E' p => ?_
  cases f with
  | next => exact p c fs K J gd lv gc k
  | brk => exact k .brk i E' p
  | cont => exact k .cont i E' p
  | ret u => exact k (.ret u) i E' p
/-- a statement that hands out nothing -/
theorem gw_plain (h : ∀ s_1 H_1, WS (gX g s_1 H_1) st ⟨nx its, fun _ _ => False, bk its, ct its, fun _ _ _ => False⟩ ⟨G, O⟩) : GW g fin pins st ⟨nx, bk, ct, rt⟩ its ⟨G, O⟩ := fun c fs K J gd lv gc k s_1 H_1 bd σ H s hs I g0 => by
  refine sx_wrap ?_
  rw [gc.over]
  refine wpAny_mono (h s_1 H_1 bd σ H g0 { nx := fun σ' H' => ∃ E', Good g.K bd σ' H' E' ∧ nx its E', rt := fun _ _ => False, bk := fun σ' H' => ∃ E', Good g.K bd σ' H' E' ∧ bk its E', ct := fun σ' H' => ∃ E', Good g.K bd σ' H' E' ∧ ct its E' }
    ⟨fun σ' H' E' g' p => ⟨E', g', p⟩, fun _ _ _ _ _ z => z.elim, fun σ' H' E' g' p => ⟨E', g', p⟩, fun σ' H' E' g' p => ⟨E', g', p⟩, takes_none fun c d σ H ⟨_, _, _, _, _, z⟩ => z⟩ pins s I) (fun f s' q => ?_) fun _ _ z => z.elim
  cases f with
  | next =>
    obtain ⟨σ', H', I', E', g', p⟩ := q
    exact k .next its E' p s_1 H_1 bd σ' H' s' hs I' g'
  | brk =>
    obtain ⟨σ', H', I', E', g', p⟩ := q
    exact k .brk its E' p s_1 H_1 bd σ' H' s' hs I' g'
  | cont =>
    obtain ⟨σ', H', I', E', g', p⟩ := q
    exact k .cont its E' p s_1 H_1 bd σ' H' s' hs I' g'
  | ret u =>
    obtain ⟨_, _, _, _, _, z⟩ := q
    exact z.elim
/-- return, bare -/
theorem gw_ret (h : rt its ⟨G, O⟩) : GW g fin pins (.Return none pos) ⟨nx, bk, ct, rt⟩ its ⟨G, O⟩ := fun c fs K J gd lv gc k => sl_at (k (.ret .none) its _ ⟨rfl, h⟩)
/-- yield e -/
theorem gw_yield {e : Expr} {yp : Pos} {it : Item} {P : En → List OE → Prop} (he : ∀ s_1 H_1, EW (gX g s_1 H_1) e ⟨G, O⟩ P) (k : ∀ r O', P r O' → ∃ N O2, O'.Perm (N ++ O2) ∧ it r N ∧ nx its ⟨G, O2⟩)
    (hco : g.scope.isCoroutine = false := by rfl) (hi : interactive g.env = false := by rfl) : GW g fin pins (.Expr (.Yield (some e) yp) pos) ⟨nx, bk, ct, rt⟩ (it :: its) ⟨G, O⟩ := fun c fs K J gd lv gc kk s_1 H_1 bd σ H s hs I g0 => by
  have hy : yieldOut g.env = yieldValue := by
    funext v
    unfold yieldOut
    rw [show g.env.scope.isCoroutine = false from hco]
    rfl
  rw [exec_Expr g.env (.Yield (some e) yp) pos hi rfl]
  show SegX _ _ _ c (.at pos fun _ => ((eval e g.env >>= fun v => standAt yp >>= fun _ => yieldOut g.env v) >>= fun x => dropValue (.Yield (some e) yp) pos x).wrap K J gd lv) fs s
  refine sx_at ?_
  rw [Sem.bind_eq_wrap', Sem.bind_eq_wrap', Sem.wrap_wrap, Sem.wrap_wrap, hy]
  refine sx_wrap ?_
  rw [gc.over]
  refine wpAny_mono (he s_1 H_1 bd σ H g0 (fun u H' => ∃ r O', P r O' ∧ Good g.K bd σ H' ⟨G, O'⟩ ∧ EnOk g.K (stab bd.Oc H' O') r u) (fun u H' r O' p g' _ ok => ⟨r, O', p, g', ok⟩) pins s I) (fun v s' ⟨u, H', I', rv, r, O', p, g', ok⟩ => ?_) fun _ _ z => z.elim
  obtain ⟨N, O2, hp, hit, hn⟩ := k r O' p
  obtain ⟨g2, e2⟩ := g'.perm hp
  refine sx_at (sx_yield gc.split fun p => ?_)
  refine ⟨v, _, _, _, c, p, fs, ⟨G, O2⟩, pins, rfl, ?_, ⟨gc.pn, r, N, σ, H', u, hit, I', g2, rv, by rw [← e2]; exact ok⟩, ?_⟩
  · show (gd false || fs.any Frame.guarded) = false
    rw [gc.gd, gc.guard]
    rfl
  · exact kk .next its ⟨G, O2⟩ hn
theorem gc_ret {c c' : Code} {fs : List Frame} {gd : Bool → Bool} {k : Result → Sem PySem.Fin} {l kp : List Value} {p : Pos} (gc : GC g pins c fs gd) (hw : c'.weight = 0) (hu : c'.cUnits = 0) : GC g pins c' (.ret k none (gd false) l c p kp :: fs) id where
  over := (over_loop hw hu).trans gc.over
  split := by
    show (splitAtGen fs).map _ = none
    rw [gc.split]
    rfl
  guard := by
    show (gd false || fs.any Frame.guarded) = false
    rw [gc.gd, gc.guard]
    rfl
  gd := rfl
  pn := gc.pn
/-- if -/
theorem gw_if {test : Expr} {a b : List Stmt} {O1 : List OE} {cc : Bool} (ht : ∀ s_1 H_1, ET (gX g s_1 H_1) test ⟨G, O⟩ cc O1) (ha : cc = true → GWs g fin pins a ⟨nx, bk, ct, rt⟩ its ⟨G, O1⟩) (hb : cc = false → GWs g fin pins b ⟨nx, bk, ct, rt⟩ its ⟨G, O1⟩) :
    GW g fin pins (.If test a b pos) ⟨nx, bk, ct, rt⟩ its ⟨G, O⟩ := fun c fs K J gd lv gc kk s_1 H_1 bd σ H s hs I g0 => by
  show SegX _ _ _ c (.at pos fun _ => ((isTrue test g.env (eval test g.env) >>= fun b' => if b' = true then execs a g.env else execs b g.env) : Sem Flow).wrap K J gd lv) fs s
  refine sx_at ?_
  rw [Sem.bind_eq_wrap', Sem.wrap_wrap]
  refine sx_wrap ?_
  rw [gc.over]
  refine wpAny_mono (ht s_1 H_1 bd σ H g0 (fun b' H' => b' = cc ∧ Good g.K bd σ H' ⟨G, O1⟩) (fun H' g' _ => ⟨rfl, g'⟩) pins s I) (fun b' s' ⟨H', I', e, g'⟩ => ?_) fun _ _ z => z.elim
  subst e
  cases b' with
  | true =>
    rw [if_pos rfl]
    exact ha rfl c fs K J (fun x => gd (id x)) (fun x => lv (id x)) gc kk s_1 H_1 bd σ H' s' hs I' g'
  | false =>
    rw [if_neg Bool.false_ne_true]
    exact hb rfl c fs K J (fun x => gd (id x)) (fun x => lv (id x)) gc kk s_1 H_1 bd σ H' s' hs I' g'
/-- while -/
theorem gw_while {test : Expr} {body : List Stmt} (W : Nat → List Item → Env → Prop) (h0 : ∃ m, W m its ⟨G, O⟩)
    (turn : ∀ m i G O, W m i ⟨G, O⟩ → ∃ cc O1, (∀ s_1 H_1, ET (gX g s_1 H_1) test ⟨G, O⟩ cc O1) ∧
      (cc = true → GWs g fin pins body ⟨fun i' E' => ∃ m', m' < m ∧ W m' i' E', nx, fun i' E' => ∃ m', m' < m ∧ W m' i' E', rt⟩ i ⟨G, O1⟩) ∧ (cc = false → nx i ⟨G, O1⟩)) :
    GW g fin pins (.While test body [] pos) ⟨nx, bk, ct, rt⟩ its ⟨G, O⟩ := fun c fs K J gd lv gc kk => by
  obtain ⟨m0, w0⟩ := h0
  refine sl_at (sl_call fun p => ?_)
  have loop : ∀ m i E, W m i E → Sleeps g fin i (.whileLoop test body [] g.env) ((model g.P g.w).den (.whileLoop test body [] g.env)) (.ret (fun r => ((match r with | .ok f => (.pure f : Sem Flow) | .error e => .raise e).onRaise (cameBack g.env)).wrap K J gd lv) none (gd false) (lv []) c p [] :: fs) pins E := by
    intro m
    induction m using Nat.strongRecOn with
    | ind m ih =>
      intro i ⟨G, O⟩ w s_1 H_1 bd σ H s hs I g0
      obtain ⟨cc, O1, ht, hb, hn⟩ := turn m i G O w
      have gl := gc_ret (k := fun r => ((match r with | .ok f => (.pure f : Sem Flow) | .error e => .raise e).onRaise (cameBack g.env)).wrap K J gd lv) (c' := .whileLoop test body [] g.env) (l := lv []) (kp := []) (p := p) gc rfl rfl
      show SegX _ _ _ _ ((whileTurn test body [] g.env).onRaise fun x => do noteFrame x g.env; theTreesLotGoes x) _ _
      unfold whileTurn
      rw [Sem.onRaise_eq_wrap, Sem.bind_eq_wrap', Sem.wrap_wrap]
      refine sx_wrap ?_
      rw [gl.over]
      refine wpAny_mono (ht s_1 H_1 bd σ H g0 (fun b' H' => b' = cc ∧ Good g.K bd σ H' ⟨G, O1⟩) (fun H' g' _ => ⟨rfl, g'⟩) pins s I) (fun b' s' ⟨H', I', e, g'⟩ => ?_) fun _ _ z => z.elim
      subst e
      cases b' with
      | true =>
        rw [if_pos rfl, Sem.bind_eq_wrap', Sem.wrap_wrap]
        refine hb rfl _ _ _ _ _ _ (gl : GC g pins _ _ fun x => id (id x)) (fun f i' E' q => ?_) s_1 H_1 bd σ H' s' hs I' g'
        cases f with
        | next =>
          obtain ⟨m', hm, w'⟩ := q
          exact sl_again rfl (ih m' hm i' E' w')
        | cont =>
          obtain ⟨m', hm, w'⟩ := q
          exact sl_again rfl (ih m' hm i' E' w')
        | brk => exact sl_leaf (.ok .next) (kk .next i' E' q)
        | ret u => exact sl_leaf (.ok (.ret u)) (kk (.ret u) i' E' q)
      | false =>
        rw [if_neg Bool.false_ne_true]
        exact sl_leaf (.ok .next) (kk .next i ⟨G, O1⟩ (hn rfl)) s_1 H_1 bd σ H' s' hs I' g'
  exact loop m0 its _ w0
end
end Lx

/-! The one who wakes a generator: its own state and the sleeper's, each seen from the other. -/
namespace Lx
open PySem PySem.Spec PyProof.Rows L2 GenW
open Sem (wp)

/-! ### what stood below n -/
def trH (n : Nat) (h : Heap) : Heap := { h with objs := (h.objs.toList.take n).toArray }
theorem trH_size {n : Nat} {h : Heap} (hn : n ≤ h.objs.size) : (trH n h).objs.size = n := by
  show (h.objs.toList.take n).toArray.size = n
  simp
  omega
theorem trH_lt {n : Nat} {h : Heap} {b : Addr} (hb : b < n) : (trH n h).get? b = h.get? b := by
  have e : (trH n h).objs[b]? = h.objs[b]? := by
    show (h.objs.toList.take n).toArray[b]? = _
    rw [List.getElem?_toArray, List.getElem?_take_of_lt hb, Array.getElem?_toList]
  unfold Heap.get?
  rw [e]
theorem trH_ge {n : Nat} {h : Heap} {b : Addr} (hb : n ≤ b) : (trH n h).get? b = none := by
  have e : (trH n h).objs[b]? = none := by
    show (h.objs.toList.take n).toArray[b]? = none
    rw [List.getElem?_toArray]
    exact List.getElem?_eq_none (by rw [List.length_take]; omega)
  unfold Heap.get?
  rw [e]
theorem trH_sub {n : Nat} {h : Heap} {b : Addr} {o : Obj} (e : (trH n h).get? b = some o) : b < n ∧ h.get? b = some o := by
  by_cases hb : b < n
  · rw [trH_lt hb] at e
    exact ⟨hb, e⟩
  · rw [trH_ge (Nat.le_of_not_lt hb)] at e
    cases e
def trS (n : Nat) (s : Shared) : Shared := { s with heap := trH n s.heap }

/-! ### what is not tracked from n on is held fast -/
def Fzd (n : Nat) (ch : List Addr) (H : Hp) (h : Heap) (b : Addr) : Prop := n ≤ b ∧ b ∉ ch ∧ H b = none ∧ ∃ o, h.get? b = some o
open Classical in
noncomputable def fz (n : Nat) (ch : List Addr) (H : Hp) (h : Heap) : Hp := fun b => if Fzd n ch H h b then (h.get? b).map (fun o => .frz o (.ext fun _ => True)) else H b
open Classical in
noncomputable def unfz (n : Nat) (ch : List Addr) (H : Hp) (h : Heap) (H1 : Hp) : Hp := fun b => if Fzd n ch H h b then none else H1 b
section
variable {n : Nat} {ch : List Addr} {H H1 : Hp} {h h1 : Heap} {b : Addr} {o : Obj} {P : Program} {w : World}
theorem fz_in (hb : n ≤ b) (hc : b ∉ ch) (hH : H b = none) (e : h.get? b = some o) : fz n ch H h b = some (.frz o (.ext fun _ => True)) := by
  unfold fz
  rw [if_pos ⟨hb, hc, hH, o, e⟩, e]
  rfl
theorem fz_out (hn : ¬ Fzd n ch H h b) : fz n ch H h b = H b := by
  unfold fz
  rw [if_neg hn]
theorem fz_lt (hb : b < n) : fz n ch H h b = H b := fz_out fun z => absurd z.1 (Nat.not_le_of_lt hb)
theorem fz_same : Same H (fz n ch H h) := fun b u e => by
  rw [fz_out fun z => by rw [z.2.2.1] at e; cases e]
  exact e
theorem fz_hok (ok : HOk P w H h) : HOk P w (fz n ch H h) h := fun b u e => by
  by_cases z : Fzd n ch H h b
  · obtain ⟨z1, z2, z3, o, z4⟩ := id z
    rw [fz_in z1 z2 z3 z4] at e
    cases e
    exact ⟨z4, trivial, ⟨o, z4⟩, fun _ _ _ _ => trivial⟩
  · rw [fz_out z] at e
    exact (ok b u e).stay (fun _ _ _ q => q) (fun _ q => fz_same _ _ q) fun _ _ q => fz_same _ _ q
theorem unfz_out (hn : ¬ Fzd n ch H h b) : unfz n ch H h H1 b = H1 b := by
  unfold unfz
  rw [if_neg hn]
theorem unfz_in (hn : Fzd n ch H h b) : unfz n ch H h H1 b = none := by
  unfold unfz
  rw [if_pos hn]
theorem unfz_some {u : HO} (e : unfz n ch H h H1 b = some u) : ¬ Fzd n ch H h b ∧ H1 b = some u := by
  by_cases z : Fzd n ch H h b
  · rw [unfz_in z] at e
    cases e
  · rw [unfz_out z] at e
    exact ⟨z, e⟩
/-- what is held fast stays -/
theorem fzd_at (hf : ∀ b o u, fz n ch H h b = some (.frz o u) → H1 b = some (.frz o u)) (z : Fzd n ch H h b) : ∃ o, h.get? b = some o ∧ H1 b = some (.frz o (.ext fun _ => True)) := by
  obtain ⟨z1, z2, z3, o, z4⟩ := z
  exact ⟨o, z4, hf _ _ _ (fz_in z1 z2 z3 z4)⟩
theorem unfz_keep (hf : ∀ b o u, fz n ch H h b = some (.frz o u) → H1 b = some (.frz o u)) {u : HO} (e : H1 b = some u) (hu : ∀ o, u ≠ .frz o (.ext fun _ => True)) : unfz n ch H h H1 b = some u := by
  rw [unfz_out fun z => ?_]
  · exact e
  · obtain ⟨o, _, e2⟩ := fzd_at hf z
    rw [e] at e2
    exact hu o (Option.some.inj e2)
theorem unfz_hok (hf : ∀ b o u, fz n ch H h b = some (.frz o u) → H1 b = some (.frz o u)) (ok : HOk P w H1 h1) : HOk P w (unfz n ch H h H1) h1 := fun b u e =>
  (ok b u (unfz_some e).2).stay (fun _ _ _ q => q) (fun d q => unfz_keep hf q fun _ z => by cases z) fun d xs q => unfz_keep hf q fun _ z => by cases z
theorem unfz_ext {Oc Oc' : List Addr} (hf : ∀ b o u, fz n ch H h b = some (.frz o u) → H1 b = some (.frz o u)) : Ext (hide Oc H1) (hide Oc (unfz n ch H h H1)) := by
  have k : ∀ {a : Addr} {u : HO}, hide Oc H1 a = some u → (∀ o, u ≠ .frz o (.ext fun _ => True)) → hide Oc (unfz n ch H h H1) a = some u := fun {a u} e hu => by
    by_cases hm : a ∈ Oc
    · rw [hide_in hm] at e
      cases e
    · rw [hide_out hm] at e ⊢
      exact unfz_keep hf e hu
  refine ⟨fun a u d e => k e fun o z => by rw [z] at d; exact d, fun a ws r => ?_, fun a ws r => ?_⟩
  · rcases r with r | ⟨o, r⟩
    · exact .inl (k r fun o z => by cases z)
    · exact .inr ⟨o, k r fun o z => by cases z⟩
  · rcases r with r | ⟨o, r⟩
    · exact .inl (k r fun o z => by cases z)
    · exact .inr ⟨o, k r fun o z => by cases z⟩
/-- a state that tracks less -/
theorem Good.less {K : PySem.W.Frag} {bd : Bd} {σ : L2.St} {E : Env} (g : Good K bd σ H1 E) (hf : ∀ b o u, fz n ch H h b = some (.frz o u) → H1 b = some (.frz o u)) (hB : ∀ b u, bd.B b = some u → ¬ Fzd n ch H h b) : Good K bd σ (unfz n ch H h H1) E where
  ocB := g.ocB
  same := fun b u e => by rw [unfz_out (hB b u e)]; exact g.same b u e
  low := g.low.trans (unfz_ext (Oc' := []) hf)
  fresh := g.fresh
  nd := g.nd
  slots := g.slots.mono (unfz_ext (Oc' := []) hf)
  objs := fun q hq => by
    obtain ⟨o, e, k⟩ := g.objs q hq
    refine ⟨o, unfz_keep hf e fun o' z => ?_, k.mono (unfz_ext (Oc' := []) hf)⟩
    subst z
    obtain ⟨p, x⟩ := q
    cases x with
    | lst => obtain ⟨_, z, _⟩ := k; cases z
    | dK => obtain ⟨_, z, _⟩ := k; cases z
    | dT => obtain ⟨_, z, _⟩ := k; cases z
    | ins => obtain ⟨_, _, z, _⟩ := k; cases z
    | set => exact (nomatch (show HO.frz o' (.ext fun _ => True) = HO.set _ _ from k))
end

/-! ### a sleeper that stands at the side of a run -/
/-- the generator g's frame belongs to a call that we made -/
structure Ours (X : Cx) (g : GP) (pins : List (Addr × Obj)) : Prop where
  P : g.P = X.prog
  w : g.w = X.w
  K : g.K = X.K
  mg : g.mg = X.mg
  base : g.base = X.base
  A : g.A = X.A.in1
  outer : g.outer = X.stack
  kind : g.scope.kind = .function
  cells : g.env.cells = []
  nocell : ∀ x, g.env.kindOf x ≠ some .cell ∧ g.env.kindOf x ≠ some .free
  calm : X.calm = true
  loc : X.env.locals < g.n
  stk : ∀ b ∈ frs X.stack, b < g.n
  cab : ∀ x c, X.env.cells.lookup x = some c → c < g.n
  pin : ∀ p ∈ X.pn ++ pins, p.1 < g.n
  old : X.s_0.heap.objs.size ≤ g.n
  obase : X.base.objs.size ≤ g.n
/-- its frame, as it stands -/
structure Frm (g : GP) (pg : List (Addr × Obj)) (σ : L2.St) (H : Hp) (s : Shared) : Prop where
  loc : ∃ m, s.heap.Ns g.n m ∧ ∀ (i : Nat) (x : Str) (v : V), g.N[i]? = some x → σ[i]? = some (some v) → Vis g.scope x → ∃ u, RelV v u ∧ g.env.kindOf x = some .local ∧ m x = some u
  free : H g.n = none
  pin : ∀ p ∈ pg, s.heap.get? p.1 = some p.2 ∧ H p.1 = none ∧ g.n < p.1 ∧ ∀ v, p.2.data ≠ .cell v
  len : σ.length = g.N.length
abbrev chG (g : GP) (pg : List (Addr × Obj)) (Og : List OE) : List Addr := g.n :: (pg.map (·.1) ++ (own Og).filter fun b => decide (g.n ≤ b))
theorem obj_there {P : Program} {w : World} {H : Hp} {h : Heap} {a : Addr} {u : HO} (x : ObjOk P w H h a u) : ∃ o, h.get? a = some o := by
  cases u with
  | lst xs => obtain ⟨_, _, _, _, e⟩ := x; exact ⟨_, e⟩
  | tup xs => obtain ⟨_, _, _, ob, e, _⟩ := x; exact ⟨_, e⟩
  | dK kvs => obtain ⟨_, _, _, _, o, _, _, e, _⟩ := x; exact ⟨_, e⟩
  | dT kvs => obtain ⟨_, _, _, _, o, _, _, e, _⟩ := x; exact ⟨_, e⟩
  | set S n => obtain ⟨o, _, _, _, e, _⟩ := x; exact ⟨_, e⟩
  | ins C dx fs => obtain ⟨_, _, _, e, _⟩ := x; exact ⟨_, e⟩
  | own y => exact x
  | xd fs => obtain ⟨_, ⟨_, _, _, e, _⟩, _⟩ := x; exact ⟨_, e⟩
  | rng lo hi => obtain ⟨_, _, _, e⟩ := x; exact ⟨_, e⟩
  | frz ob u => exact ⟨_, x.1⟩
  | tbl ps => exact ⟨_, x⟩
  | met f y => exact ⟨_, x⟩
  | ext φ => exact x.2.1
section
variable {X : Cx} {g : GP} {pins pg : List (Addr × Obj)} {σ σg : L2.St} {H H1 : Hp} {s s1 : Shared} {Og : List OE}
theorem Frm.lt (F : Frm g pg σg H s) : g.n < s.heap.objs.size := let ⟨_, hn, _⟩ := F.loc; hn.lt
theorem frames_tr {base : Heap} {n : Nat} {h : Heap} : ∀ {l : List PySem.Env}, (∀ b ∈ frs l, b < n) → h.FunFrames base l → (trH n h).FunFrames base l
  | [], _, _ => trivial
  | env :: r, hb, ⟨h1, ⟨L, o, hf, h2, h3, h4⟩, h5⟩ => by
    have hL : L ∈ frs (env :: r) := by
      unfold frs
      rw [List.filterMap_cons, hf]
      exact List.mem_cons_self
    refine ⟨h1, ⟨L, o, hf, h2, by rw [trH_lt (hb L hL)]; exact h3, h4⟩, frames_tr (fun b q => hb b ?_) h5⟩
    unfold frs
    rw [List.filterMap_cons, hf]
    exact List.mem_cons_of_mem _ q
/-- our state, as the sleeper's -/
theorem wake_inv (I : Inv X pins σ H s) (U : Ours X g pins) (F : Frm g pg σg H s) {G' : Array GenState} (hG : AllBare G') :
    Inv (gX g (trS g.n s) (fz g.n (chG g pg Og) H s.heap)) pg σg (fz g.n (chG g pg Og) H s.heap) { s with gens := G' } := by
  have lt := F.lt
  have fzb : ∀ b, b < g.n → fz g.n (chG g pg Og) H s.heap b = H b := fun b hb => fz_lt hb
  have fzc : ∀ b, b ∈ chG g pg Og → fz g.n (chG g pg Og) H s.heap b = H b := fun b hb => fz_out fun z => z.2.1 hb
  have base : ∀ b o, g.base.get? b = some o → b < g.n := fun b o e => by
    rw [U.base] at e
    exact Nat.lt_of_lt_of_le (Heap.lt_size e) U.obase
  have hc : (gX g (trS g.n s) (fz g.n (chG g pg Og) H s.heap)).env.cells = [] := U.cells
  have nocell : ∀ x c, (gX g (trS g.n s) (fz g.n (chG g pg Og) H s.heap)).env.cells.lookup x = some c → False := fun x c e => by
    rw [hc] at e
    cases e
  refine ⟨⟨?_, U.kind, rfl, rfl, ?_, fun x y c e _ => (nocell x c e).elim, fun x h => ?_, fun x c _ e => (nocell x c e).elim, fun _ => ?_, ?_, .inr ⟨rfl, rfl⟩, fun b hb => (nomatch hb), fun b o e => ?_, ?_, fun b o e hb => (nomatch hb), fun b hb => (nomatch hb), ?_, fun b hb => ?_⟩, rfl, hG, ?_, ?_, fun x c e => (nocell x c e).elim, ?_, fun x c e => (nocell x c e).elim, fun p hp => ?_, ?_, F.len⟩
  · show Mod g.K g.mg g.base
    rw [U.K, U.mg, U.base]
    exact I.ok.mod
  · show (trH g.n s.heap).objs.size ≤ g.n
    rw [trH_size (Nat.le_of_lt lt)]
    exact Nat.le_refl _
  · rcases h with h | h
    · exact ((U.nocell x).1 h).elim
    · exact ((U.nocell x).2 h).elim
  · show g.A.handled = none
    rw [U.A]
    exact I.ok.hd U.calm
  · refine Around.frames_deeper ?_
    rw [U.A, U.outer]
    exact I.ok.frames
  · show (trH g.n s.heap).get? b = some o ∧ fz g.n (chG g pg Og) H s.heap b = none
    have e' : X.base.get? b = some o := by rw [← U.base]; exact e
    rw [trH_lt (base b o e), fzb b (base b o e)]
    exact I.bs b o e'
  · show g.base.objs.size ≤ (trH g.n s.heap).objs.size
    rw [trH_size (Nat.le_of_lt lt), U.base]
    exact U.obase
  · show (trH g.n s.heap).FunFrames g.base g.outer
    rw [U.base, U.outer]
    exact frames_tr U.stk I.stack
  · show fz g.n (chG g pg Og) H s.heap b = none
    have hb' : b ∈ frs X.stack := by rw [← U.outer]; exact hb
    rw [fzb b (U.stk b hb')]
    exact I.stkFree b hb'
  · show Un _ _ (fz g.n (chG g pg Og) H s.heap) (fz g.n (chG g pg Og) H s.heap) (trH g.n s.heap) s.heap
    exact Un.kept fun b u e => (trH_sub e).2
  · obtain ⟨m, hm, hv⟩ := F.loc
    refine ⟨m, hm, fun i x v e1 e2 e3 => ?_⟩
    obtain ⟨u, r, k1, k2⟩ := hv i x v e1 e2 e3
    exact ⟨u, r, .inl ⟨k1, k2⟩⟩
  · show fz g.n (chG g pg Og) H s.heap g.n = none
    rw [fzc g.n List.mem_cons_self]
    exact F.free
  · obtain ⟨h1, h2, h3, h4⟩ := F.pin p hp
    refine ⟨h1, ?_, Nat.ne_of_gt h3, fun hb => ?_, h4⟩
    · rw [fzc p.1 (List.mem_cons_of_mem _ (List.mem_append_left _ (List.mem_map_of_mem hp)))]
      exact h2
    · have hb' : p.1 ∈ frs X.stack := by rw [← U.outer]; exact hb
      exact absurd (U.stk _ hb') (Nat.not_lt_of_gt h3)
  · show HOk g.P g.w _ _
    rw [U.P, U.w]
    exact fz_hok I.hok
theorem fz_frzs (I1 : Inv (gX g (trS g.n s) (fz g.n (chG g pg Og) H s.heap)) pg1 σ1 H1 s1) : ∀ b o u, fz g.n (chG g pg Og) H s.heap b = some (.frz o u) → H1 b = some (.frz o u) := fun b o u e => I1.base.frzs b o u e
/-- the sleeper's state, as ours -/
theorem back_inv {pg1 : List (Addr × Obj)} {σ1 : L2.St} (I : Inv X pins σ H s) (U : Ours X g pins) (F : Frm g pg σg H s) 
    (I1 : Inv (gX g (trS g.n s) (fz g.n (chG g pg Og) H s.heap)) pg1 σ1 H1 s1) (hB : ∀ b u, H b = some u → b ∉ own Og → H1 b = some u) {s2 : Shared} (h2 : ∀ b o, s1.heap.get? b = some o → s2.heap.get? b = some o) (ho : s2.os = s1.os) (hG : AllBare s2.gens) :
    Inv X pins σ (unfz g.n (chG g pg Og) H s.heap H1) s2 := by
  have hf := fz_frzs I1
  have lt := F.lt
  have fzb : ∀ b, b < g.n → fz g.n (chG g pg Og) H s.heap b = H b := fun b hb => fz_lt hb
  have unb : ∀ b, b < g.n → unfz g.n (chG g pg Og) H s.heap H1 b = H1 b := fun b hb => unfz_out fun z => absurd z.1 (Nat.not_le_of_lt hb)
  have tr : ∀ b o, b < g.n → s.heap.get? b = some o → (trS g.n s).heap.get? b = some o := fun b o hb e => by
    show (trH g.n s.heap).get? b = some o
    rw [trH_lt hb]
    exact e
  have ou : (gX g (trS g.n s) (fz g.n (chG g pg Og) H s.heap)).fs = frs X.stack := by
    show frs g.outer = _
    rw [U.outer]
  have B := I1.base
  rw [ou] at B
  have ok1 : HOk X.prog X.w H1 s1.heap := by
    rw [← U.P, ← U.w]
    exact I1.hok
  have side : ∀ b, ¬ b < g.n → H b = none → b ∉ chG g pg Og → ∀ o, s.heap.get? b = some o → Fzd g.n (chG g pg Og) H s.heap b ∧ s1.heap.get? b = some o := fun b hb hn hc o e => by
    have z : Fzd g.n (chG g pg Og) H s.heap b := ⟨Nat.le_of_not_lt hb, hc, hn, o, e⟩
    refine ⟨z, ?_⟩
    obtain ⟨o', e1, e2⟩ := fzd_at hf z
    rw [e] at e1
    cases e1
    exact (ok1 b _ e2).1
  refine I.call' (ch := chG g pg Og) (ho.trans I1.os) ⟨fun b o e n hb hc => h2 b o ?_, fun b o e n hb hc => ?_, fun b o e n hc => ?_, fun b o e hc => ?_, fun b xs e => ?_, fun b o u e => ?_, fun b ps e => ?_⟩ ?_ hG fun b hb => ?_
  · by_cases lb : b < g.n
    · exact B.keep b o (tr b o lb e) (by rw [show (gX g (trS g.n s) (fz g.n (chG g pg Og) H s.heap)).H_0 b = H b from fzb b lb]; exact n) hb (fun z => nomatch z)
    · exact (side b lb n hc o e).2
  · have lb := U.stk b hb
    obtain ⟨sl, e1⟩ := B.slot b o (tr b o lb e) (by rw [show (gX g (trS g.n s) (fz g.n (chG g pg Og) H s.heap)).H_0 b = H b from fzb b lb]; exact n) hb (fun z => nomatch z)
    exact ⟨sl, h2 b _ e1⟩
  · by_cases lb : b < g.n
    · rw [unb b lb]
      exact B.free b o (tr b o lb e) (by rw [show (gX g (trS g.n s) (fz g.n (chG g pg Og) H s.heap)).H_0 b = H b from fzb b lb]; exact n) (fun z => nomatch z)
    · exact unfz_in (side b lb n hc o e).1
  · by_cases lb : b < g.n
    · obtain ⟨o', e1⟩ := B.there b o (tr b o lb e) (fun z => nomatch z)
      exact ⟨o', h2 b _ e1⟩
    · cases hH : H b with
      | none =>
        exact ⟨o, h2 b o (side b lb hH hc o e).2⟩
      | some u =>
        obtain ⟨o', e1⟩ := obj_there (ok1 b u (hB b u hH fun z => hc (List.mem_cons_of_mem _ (List.mem_append_right _ (List.mem_filter.mpr ⟨z, decide_eq_true (Nat.le_of_not_lt lb)⟩)))))
        exact ⟨o', h2 b _ e1⟩
  · exact unfz_keep hf (B.tups b xs (fz_same _ _ e)) fun _ z => by cases z
  · have q := B.frzs b o u (fz_same _ _ e)
    rw [unfz_out fun z => by rw [z.2.2.1] at e; cases e]
    exact q
  · obtain ⟨more, q⟩ := B.tbls b ps (fz_same _ _ e)
    exact ⟨more, unfz_keep hf q fun _ z => by cases z⟩
  · exact unfz_hok hf (ok1.kept h2)
  · have z : g.n ≤ b := by
      rcases List.mem_cons.mp hb with e | hb
      · exact Nat.le_of_eq e.symm
      · rcases List.mem_append.mp hb with q | q
        · obtain ⟨p, hp, rfl⟩ := List.mem_map.mp q
          exact Nat.le_of_lt (F.pin p hp).2.2.1
        · exact of_decide_eq_true (List.mem_filter.mp q).2
    exact ⟨.inr (Nat.le_trans U.old z), Nat.ne_of_gt (Nat.lt_of_lt_of_le U.loc z), fun x c e q => absurd (U.cab x c e) (by rw [q]; exact Nat.not_lt_of_ge z), fun p hp q => absurd (U.pin p hp) (by rw [q]; exact Nat.not_lt_of_ge z)⟩
end
end Lx

/-! next() of a sleeper at our side. -/
namespace Lx
open PySem PySem.Spec PyProof.Rows L2 GenW
open Sem (wp)

def GoM (M : Model) (A : Around) (Φ : End → Shared → Prop) (gs : GenState) (s : Shared) : Prop :=
  match gs with
  | .fresh c => SegX M A Φ c (M.den c) [] s
  | .suspended k _ c _ fs _ => SegX M A Φ c (k (.send .none)) fs s
  | _ => False
theorem wake_any {M : Model} {A : Around} {Φ : End → Shared → Prop} {E : Value → Shared → Prop} {s : Shared} {g : Nat} {gs : GenState} {l : List Value} {α : Type} {k : GenResult → Sem α} {Q : α → Shared → Prop} (hg : s.gens[g]? = some gs) (hgo : GoM M A Φ gs (s.setGen g .running))
    (hQ : ∀ e s1, Φ e s1 → e.quiet = true ∧ wpAny M A (k e.result) Q E (s1.setGen g e.genState)) : wpAny M A (.resume g (.send .none) l k) Q E s := by
  intro Γ p hΓ
  rw [Sem.wp_resume]
  cases gs with
  | fresh c =>
    obtain ⟨e, s1, hr, he⟩ := hgo (Γ.wake c p) p rfl (hΓ.wake c p)
    obtain ⟨h1, h2⟩ := hQ e s1 he
    refine ⟨_, _, ?_, h2 Γ p hΓ⟩
    unfold Wakes
    rw [hg]
    exact ⟨e, s1, hr, h1, rfl, rfl⟩
  | suspended k0 l0 c p0 fs cl =>
    obtain ⟨e, s1, hr, he⟩ := hgo (Γ.wake c p) p0 rfl (hΓ.wake c p)
    obtain ⟨h1, h2⟩ := hQ e s1 he
    refine ⟨_, _, ?_, h2 Γ p hΓ⟩
    unfold Wakes
    rw [hg]
    exact ⟨e, s1, hr, h1, rfl, rfl⟩
  | running => exact hgo.elim
  | finished => exact hgo.elim
theorem next_any {P : Program} {w : World} {A : Around} {Φ : End → Shared → Prop} {E : Value → Shared → Prop} {s : Shared} {a : Addr} {gg : Nat} {gs : GenState} {Q : Option Value → Shared → Prop} (hh : A.handled = none) (hl : s.heap.NoLimit) (hroom : A.depth < recursionLimit)
    (hg : s.heap.IsGen a gg) (hgs : s.gens[gg]? = some gs) (hgo : GoM (model P w) A.in1 Φ gs (s.setGen gg .running))
    (hend : ∀ r s1, Φ (.ret r) s1 → (r = .ok (.ret .none) ∨ r = .ok .next) ∧ ∀ h', (∀ b o, s1.heap.get? b = some o → h'.get? b = some o) → Q none { s1.setGen gg .finished with heap := h' })
    (hyl : ∀ v gd l k c p fs s1, Φ (.susp v gd l k c p fs) s1 → (gd || fs.any Frame.guarded) = false ∧ Q (some v) (s1.setGen gg (.suspended k l c p fs false))) : wpAny (model P w) A (pyNext (.ref a)) Q E s := by
  have ty := hg.typeIs
  unfold pyNext
  refine wpAny_bind (wpAny_attempt (wpAny_callSpecial?_slot (name := Str.ofString "__next__") ty slot_gen_next (wpAny_call_entry slot_gen_next ty entry_gen_next ?_ (args_gen_next _))))
  show wpAny _ A.in1 (Builtin.Generator.genWake (.ref a) (.send .none)) _ _ s
  unfold Builtin.Generator.genWake
  refine wpAny_bind (wpAny_holding (wpAny_genNumber hg (wpAny_bind (wpAny_genState hgs ?_))))
  cases gs with
  | running => exact hgo.elim
  | finished => exact hgo.elim
  | _ =>
    refine wpAny_bind (wpAny_roomToWake hl hroom ?_)
    show wpAny _ A.in1 (.resume gg (.send .none) [] _) _ _ s
    refine wake_any hgs hgo fun e s1 he => ?_
    cases e with
    | ret r =>
      obtain ⟨hr, hq⟩ := hend r s1 he
      refine ⟨rfl, ?_⟩
      have e0 : (End.ret r).result = .returned .none := by rcases hr with hr | hr <;> subst hr <;> rfl
      have e1 : (End.ret r).genState = .finished := rfl
      rw [e1]
      simp only [e0]
      refine wpAny_bind (m := newExc (.type "StopIteration") []) ?_
      simp only [newExc, newTuple]
      refine wpAny_bind (wpAny_newObj_type ?_ (by size_fits))
      refine wpAny_bind (m := firstArgMember _ _) (wpAny_of_eq (a := Value.none) (by first | rfl | (simp only [firstArgMember]; rfl)) (wpAny_newObj_type ?_ (by size_fits)))
      simp only [raiseNew]
      refine wpAny_bind (wpAny_bind (wpAny_handled ?_))
      have hn : A.in1.handled = none := hh
      first | rw [hn] | simp only [hn]
      refine wpAny_throw (wpAny_bind (wpAny_isInstance (T := "StopIteration") (b := true) ⟨_, Heap.get?_push_size _ rfl, rfl⟩ isSubtype_stop (wpAny_pure (hq _ fun b o hb => ?_))))
      exact Heap.get?_push_of_some _ (Heap.get?_push_of_some _ hb)
    | susp v gd l k c p fs =>
      obtain ⟨h1, h2⟩ := hyl v gd l k c p fs s1 he
      refine ⟨by show (!(gd || fs.any Frame.guarded)) = true; rw [h1]; rfl, ?_⟩
      have e1 : (End.susp v gd l k c p fs).genState = .suspended k l c p fs false := by
        show GenState.suspended k l c p fs (gd || fs.any Frame.guarded) = _
        rw [h1]
      rw [e1]
      exact wpAny_pure ⟨v, rfl, wpAny_pure h2⟩
/-! ### a sleeper held -/
def GoX (g : GP) (fin : List OE → Prop) (its : List Item) (pg : List (Addr × Obj)) (E : Env) (gs : GenState) : Prop :=
  match gs with
  | .fresh c => Sleeps g fin its c ((model g.P g.w).den c) [] pg E
  | .suspended k _ c _ fs _ => Sleeps g fin its c (k (.send .none)) fs pg E
  | _ => False
structure Held (X : Cx) (g : GP) (fin : List OE → Prop) (its : List Item) (pins pg : List (Addr × Obj)) (E : Env) (σg : L2.St) (H : Hp) (s : Shared) (sl : Bool) : Prop where
  ours : Ours X g pins
  frm : Frm g pg σg H s
  free : H g.a = none
  above : g.n < g.a
  apart : ∀ p ∈ pg, p.1 ≠ g.a
  gen : ∃ gg gs, s.heap.IsGen g.a gg ∧ s.gens[gg]? = some gs ∧ GoX g fin its pg E gs ∧ (sl = true → Sleeper gs)
structure Got (X : Cx) (g : GP) (fin : List OE → Prop) (its : List Item) (pins : List (Addr × Obj)) (bd : Bd) (σ : L2.St) (G : List (Option En)) (Oc : List OE) (S0 : Hp) (it : Item) (u : Value) (s' : Shared) : Prop where
  ex : ∃ r N v E' pg' σg' H', it r N ∧ Held X g fin its pins pg' E' σg' H' s' true ∧ Inv X pins σ H' s' ∧ Good X.K bd σ H' ⟨G, (N ++ E'.O) ++ Oc⟩ ∧ Slots X.K (stab bd.Oc H' ((N ++ E'.O) ++ Oc)) E'.G σg' ∧ RelV v u ∧
    EnOk X.K (stab bd.Oc H' ((N ++ E'.O) ++ Oc)) r v ∧ Ext S0 (stab bd.Oc H' ((N ++ E'.O) ++ Oc))
def NextIs (X : Cx) (g : GP) (fin : List OE → Prop) (pins : List (Addr × Obj)) (bd : Bd) (σ : L2.St) (G : List (Option En)) (Oc : List OE) (S0 : Hp) : List Item → Option Value → Shared → Prop
  | [], r, s' => r = none ∧ ∃ Og H', Inv X pins σ H' s' ∧ Good X.K bd σ H' ⟨G, Og ++ Oc⟩ ∧ fin Og ∧ Ext S0 (stab bd.Oc H' (Og ++ Oc))
  | it :: its, r, s' => ∃ u, r = some u ∧ Got X g fin its pins bd σ G Oc S0 it u s'
theorem frm_of {g : GP} {pg1 : List (Addr × Obj)} {σ1 : L2.St} {H1 H2 : Hp} {s_1 s1 s2 : Shared} {H_1 : Hp} (I1 : Inv (gX g s_1 H_1) pg1 σ1 H1 s1) (hn : ∀ x, g.env.kindOf x ≠ some .cell ∧ g.env.kindOf x ≠ some .free) (hlo : ∀ p ∈ pg1, g.n < p.1 ∧ p.1 ≠ g.a)
    (h2 : ∀ b o, s1.heap.get? b = some o → s2.heap.get? b = some o) (hs : ∀ b, H1 b = none → H2 b = none) : Frm g pg1 σ1 H2 s2 where
  loc := by
    obtain ⟨m, hm, hv⟩ := I1.loc
    refine ⟨m, hm.at' fun o e => h2 _ o e, fun i x v e1 e2 e3 => ?_⟩
    obtain ⟨u, r, k⟩ := hv i x v e1 e2 e3
    rcases k with ⟨k1, k2⟩ | ⟨k1 | k1, _⟩
    · exact ⟨u, r, k1, k2⟩
    · exact ((hn x).1 k1).elim
    · exact ((hn x).2 k1).elim
  free := hs _ I1.free
  pin := fun p hp => by
    obtain ⟨e, n, _, _, d⟩ := I1.pin p (show p ∈ [] ++ pg1 from hp)
    exact ⟨h2 _ _ e, hs _ n, (hlo p hp).1, d⟩
  len := I1.len
theorem allBare_setGen' {s : Shared} {g : Nat} {x : GenState} (h : AllBare s.gens) (hx : x.bare = true) : AllBare (s.setGen g x).gens := allBare_setGen h hx
section
variable {X : Cx} {g : GP} {fin : List OE → Prop} {its : List Item} {pins pg : List (Addr × Obj)} {E : Env} {σ σg : L2.St} {H : Hp} {s : Shared} {bd : Bd} {G : List (Option En)} {Oc : List OE}
theorem next_held {EX : Value → Shared → Prop} {b0 : Bool} (I : Inv X pins σ H s) (hd : X.A.depth < recursionLimit) (h : Held X g fin its pins pg E σg H s b0) (gd : Good X.K bd σ H ⟨G, E.O ++ Oc⟩) (sl : Slots X.K (stab bd.Oc H (E.O ++ Oc)) E.G σg) :
    wpAny (model X.prog X.w) X.A (pyNext (.ref g.a)) (NextIs X g fin pins bd σ G Oc (stab bd.Oc H (E.O ++ Oc)) its) EX s := by
  obtain ⟨U, F, fa, ab, ap, gg, gs, hg, hgs, hgo, _⟩ := h
  have hK : g.K = X.K := U.K
  have hP : g.P = X.prog := U.P
  have hw : g.w = X.w := U.w
  have hA : g.A = X.A.in1 := U.A
  have sm : Same H (fz g.n (chG g pg E.O) H s.heap) := fz_same
  have gd1 := gd.grow sm
  have sl1 := sl.mono (Ext.of_same (hide_mono (O := bd.Oc ++ own (E.O ++ Oc)) sm))
  have gl0 := gd1.lend (Of := E.O) (Or := Oc) (rs := []) (vs := []) (List.Perm.refl _) rfl
  have est : stab (lendB bd (fz g.n (chG g pg E.O) H s.heap) (E.O ++ Oc) E.O Oc).Oc (fz g.n (chG g pg E.O) H s.heap) E.O = stab bd.Oc (fz g.n (chG g pg E.O) H s.heap) (E.O ++ Oc) := by
    have := (gd1.backX (List.Perm.refl _) gl0).2.2
    exact this
  have gl := gl0.re (G' := E.G) (σ' := σg) (by rw [est]; exact sl1)
  have glK : Good g.K (lendB bd (fz g.n (chG g pg E.O) H s.heap) (E.O ++ Oc) E.O Oc) σg (fz g.n (chG g pg E.O) H s.heap) E := by
    rw [hK]
    exact gl
  have Iw : Inv (gX g (trS g.n s) (fz g.n (chG g pg E.O) H s.heap)) pg σg (fz g.n (chG g pg E.O) H s.heap) (s.setGen gg .running) := wake_inv I U F (allBare_setGen' I.bare rfl)
  have sz : (trS g.n s).heap.objs.size = g.n := trH_size (Nat.le_of_lt F.lt)
  have za : Fzd g.n (chG g pg E.O) H s.heap g.a := by
    obtain ⟨o, _, _, ho, _⟩ := id hg
    refine ⟨Nat.le_of_lt ab, fun z => ?_, fa, o, ho⟩
    rcases List.mem_cons.mp z with z | z
    · exact absurd ab (by rw [z]; exact Nat.lt_irrefl _)
    · rcases List.mem_append.mp z with z | z
      · obtain ⟨p, hp, e⟩ := List.mem_map.mp z
        exact ap p hp e
      · obtain ⟨q, hq, e⟩ := List.mem_map.mp (List.mem_filter.mp z).1
        obtain ⟨o', e', _⟩ := gd.objs q (List.mem_append_left _ hq)
        rw [e, fa] at e'
        cases e'
  -- what is known behind a stretch
  have common : ∀ {pg1 : List (Addr × Obj)} {σ1 : L2.St} {H1 : Hp} {s1 s2 : Shared} {G1 : List (Option En)} {O1 : List OE}, Inv (gX g (trS g.n s) (fz g.n (chG g pg E.O) H s.heap)) pg1 σ1 H1 s1 → Good g.K (lendB bd (fz g.n (chG g pg E.O) H s.heap) (E.O ++ Oc) E.O Oc) σ1 H1 ⟨G1, O1⟩ →
      (∀ b o, s1.heap.get? b = some o → s2.heap.get? b = some o) → s2.os = s1.os → AllBare s2.gens →
      Inv X pins σ (unfz g.n (chG g pg E.O) H s.heap H1) s2 ∧ Good X.K bd σ (unfz g.n (chG g pg E.O) H s.heap H1) ⟨G, O1 ++ Oc⟩ ∧ Ext (stab bd.Oc H (E.O ++ Oc)) (stab bd.Oc (unfz g.n (chG g pg E.O) H s.heap H1) (O1 ++ Oc)) ∧
      Ext (stab (lendB bd (fz g.n (chG g pg E.O) H s.heap) (E.O ++ Oc) E.O Oc).Oc H1 O1) (stab bd.Oc (unfz g.n (chG g pg E.O) H s.heap H1) (O1 ++ Oc)) ∧ s2.heap.IsGen g.a gg := by
    intro pg1 σ1 H1 s1 s2 G1 O1 I1 g1 h2 ho hG
    rw [hK] at g1
    have hf := fz_frzs I1
    obtain ⟨b1, b2, b3⟩ := gd1.backX (List.Perm.refl _) g1
    have nB : ∀ b u, bd.B b = some u → ¬ Fzd g.n (chG g pg E.O) H s.heap b := fun b u e z => by
      have := gd.same b u e
      rw [z.2.2.1] at this
      cases this
    refine ⟨back_inv I U F I1 (fun b u e hb => g1.same b u ?_) h2 ho hG, b1.less hf nB, ?_, ?_, ?_⟩
    · show hide (own E.O) (fz g.n (chG g pg E.O) H s.heap) b = some u
      rw [hide_out hb]
      exact fz_same _ _ e
    · exact ((Ext.of_same (hide_mono (O := bd.Oc ++ own (E.O ++ Oc)) sm)).trans b2).trans (unfz_ext (Oc' := []) hf)
    · rw [b3]
      exact unfz_ext (Oc' := []) hf
    · obtain ⟨o, nm, qn, q1, q2⟩ := hg
      obtain ⟨o', e1, e2⟩ := fzd_at hf za
      rw [q1] at e1
      cases e1
      have ok1 : HOk g.P g.w H1 s1.heap := I1.hok
      exact ⟨o, nm, qn, h2 _ _ (ok1 _ _ e2).1, q2⟩
  have bareX : ∀ {pg1 : List (Addr × Obj)} {σ1 : L2.St} {H1 : Hp} {s1 : Shared} {x : GenState}, Inv (gX g (trS g.n s) (fz g.n (chG g pg E.O) H s.heap)) pg1 σ1 H1 s1 → x.bare = true → AllBare (s1.setGen gg x).gens := fun I1 hx => allBare_setGen' I1.bare hx
  have ltg0 : gg < s.gens.size := (Array.getElem?_eq_some_iff.mp hgs).1
  refine wpAny_gsz (n := gg + 1) ltg0 (next_any (Φ := Phi g fin its (trS g.n s) (fz g.n (chG g pg E.O) H s.heap) (lendB bd (fz g.n (chG g pg E.O) H s.heap) (E.O ++ Oc) E.O Oc)) (I.ok.hd U.calm) I.nolimit hd hg hgs ?_ (fun r s1 hr => ?_) fun v gd' l k c p fs s1 hy => ?_)
  · rw [← hP, ← hw, ← hA]
    cases gs with
    | fresh c => exact hgo (trS g.n s) _ _ σg _ _ sz Iw glK
    | suspended k l c p fs cl => exact hgo (trS g.n s) _ _ σg _ _ sz Iw glK
    | running => exact hgo.elim
    | finished => exact hgo.elim
  · cases its with
    | nil =>
      obtain ⟨hr, E', pg1, σ1, H1, I1, g1, hfin⟩ := hr
      refine ⟨by rcases hr with hr | hr <;> cases hr <;> simp, fun h' hk => ?_⟩
      obtain ⟨c1, c2, c3, _, _⟩ := common (s2 := { s1.setGen gg .finished with heap := h' }) I1 g1 hk rfl (bareX I1 rfl)
      exact fun _ => ⟨rfl, E'.O, _, c1, c2, hfin, c3⟩
    | cons it its =>
      obtain ⟨_, _, _, _, _, _, _, _, _, e, _⟩ := hr
      cases e
  · cases its with
    | nil =>
      obtain ⟨hr, _⟩ := hy
      rcases hr with hr | hr <;> cases hr
    | cons it its =>
      obtain ⟨v', gd1', l', k', c', p', fs', E', pg1, e, hq, hout, hsl⟩ := hy
      cases e
      refine ⟨hq, fun hsz => ⟨v, rfl, ?_⟩⟩
      obtain ⟨hlo, r, N, σ1, H1, u, hit, I1, g1, rv, ok⟩ := hout
      obtain ⟨c1, c2, c3, c4, c5⟩ := common (s2 := s1.setGen gg (.suspended k l c p fs false)) I1 g1 (fun _ _ e => e) rfl (bareX I1 rfl)
      have un0 : ∀ b, H1 b = none → unfz g.n (chG g pg E.O) H s.heap H1 b = none := fun b e => by
        cases q : unfz g.n (chG g pg E.O) H s.heap H1 b with
        | none => rfl
        | some u =>
          have := (unfz_some q).2
          rw [e] at this
          cases this
      have ltg : gg < s1.gens.size := by
        have q : (s1.setGen gg (.suspended k l c p fs false)).gens.size = s1.gens.size := setGen_size _ _ _
        have q2 : gg + 1 ≤ (s1.setGen gg (.suspended k l c p fs false)).gens.size := hsz
        omega
      rw [hK] at g1 ok
      refine ⟨r, N, u, E', pg1, σ1, _, hit, ⟨U, frm_of I1 U.nocell hlo (fun _ _ e => e) un0, unfz_in za, ab, fun p hp => (hlo p hp).2, gg, _, c5, setGen_at ltg, ?_, fun _ => trivial⟩, c1, c2, ?_, rv, ok.mono c4, c3⟩
      · exact hsl
      · exact g1.slots.mono c4
end
end Lx

/-! A generator def, its call, and a loop over what it hands out. -/
namespace Lx
open PySem PySem.Spec PyProof.Rows L2 GenW

/-! ### the def -/
structure GSpec (ι : Type) where
  dom : ι → Prop
  args : ι → List En
  O0 : ι → List OE := fun _ => []
  items : ι → List Item
  fin : ι → List OE → Prop := fun _ O => O = []
/-- made: a generator that has not begun -/
structure MadeG (g : GP) (body : List Stmt) (vs : List V) (H : Hp) (s s' : Shared) : Prop where
  n : g.n = s.heap.objs.size
  above : g.n < g.a
  gen : s'.heap.IsGen g.a s.gens.size
  gens : s'.gens = s.gens.push (.fresh (.func body g.env))
  os : s'.os = s.os
  keep : ∀ b o, s.heap.get? b = some o → s'.heap.get? b = some o
  frm : Frm g [] (start g.N vs) H s'
structure NoCells (scope : Scope) : Prop where
  cells : ∀ n, cellsFrom n scope.names [] = []
  kinds : ∀ q ∈ scope.names, q.2 ≠ NameKind.cell ∧ q.2 ≠ NameKind.free
theorem NoCells.kind {scope : Scope} (h : NoCells scope) {g : GP} (e : g.scope = scope) (x : Str) : g.env.kindOf x ≠ some .cell ∧ g.env.kindOf x ≠ some .free := by
  subst e
  have k : g.env.kindOf x = g.scope.names.lookup x := rfl
  rw [k]
  exact ⟨fun q => (h.kinds _ (PySem.mem_of_lookup q)).1 rfl, fun q => (h.kinds _ (PySem.mem_of_lookup q)).2 rfl⟩
theorem made_of {P : Program} {w : World} {K : PySem.W.Frag} {mg : Str → Option Value} {base : Heap} {f : Addr} {name qual : Str} {params : Arguments} {body : List Stmt} {scope : Scope} {dV kV doc pm cdv ct oc : Value} {an od : Option Addr}
    {osl : Array (Option Value)} {N ps : List Str} (lk : K.lookup f = some ⟨oc, od, .func (PySem.W.fnOf name qual params body scope dV kV doc pm an cdv ct), osl⟩) (hcd : PySem.W.codeIn K cdv qual = true) (S : GScope N ps scope) (nc : NoCells scope)
    {A : Around} {outer : List PySem.Env} {s : Shared} {H : Hp} {args : Args} {us : List Value} {vs : List V} (hdep : A.depth < recursionLimit) (hhd : A.handled = none) (e0 : Env0 P w K mg base A outer s H) (hb : BindsTo s (PySem.W.fnOf name qual params body scope dV kV doc pm an cdv ct) args (ps.zip us)) (r : Vals vs us) (hl : vs.length = ps.length) :
    codeAny (model P w) A (.call (.ref f) args) (fun r s' => ∃ a, r = .ok (.ret (.ref a)) ∧ ∀ A' o', MadeG ⟨P, w, K, mg, base, N, qual, scope, f, cdv, A', o', s.heap.objs.size, a⟩ body vs H s s') s := by
  have KX : K.In s.heap := e0.mod.kin.keeps fun b o e => (e0.bs b o e).1
  have lim : s.heap.NoLimit := e0.mod.nolimit.keeps fun b o e => (e0.bs b o e).1
  refine codeAny_call_generator hdep (KX _ _ lk) rfl S.co S.gen rfl (PySem.W.codeRec_of KX hcd) (hb _ _ _ _ (wpAny_newFunctionEnv_cells S.kind (fun ⟨n, v⟩ hy => ?_) fun env he s1 x => ?_))
  · rcases S.par n (List.of_mem_zip hy).1 with q | q
    · exact .inl q
    · exact .inr ⟨q, PySem.W.cellsFrom_some _ _ _ (.inl q)⟩
  subst he
  obtain ⟨h1, tk, es1, hk1⟩ := x.done
  have os1 : s1.os = s.os := by rw [es1]
  have gen1 : s1.gens = s.gens := by rw [es1]
  have kp1 : ∀ b o, s.heap.get? b = some o → s1.heap.get? b = some o := x.toInCall.keep
  have I1 : Inv (gcxOf P w K mg base N qual scope f cdv A outer s H (fun _ _ _ => False) []) [] (start N vs) H s1 := inv_startG S hhd e0 hl r x
  refine ⟨lim.keeps kp1, s1.heap.objs.size, rfl, fun A' o' => ⟨rfl, x.toInCall.ns.lt, ?_, ?_, os1, fun b o e => Heap.get?_push_of_some _ (kp1 b o e), ?_⟩⟩
  · show Heap.IsGen (s1.heap.push _) s1.heap.objs.size s.gens.size
    exact ⟨_, _, _, Heap.get?_push_size _ rfl, rfl, by rw [gen1], rfl⟩
  · show s1.gens.push _ = _
    rw [gen1]
    rfl
  · have nk := nc.kind (g := ⟨P, w, K, mg, base, N, qual, scope, f, cdv, A', o', s.heap.objs.size, s1.heap.objs.size⟩) rfl
    obtain ⟨m, hm, hv⟩ := I1.loc
    refine ⟨⟨m, hm.at' fun o e => Heap.get?_push_of_some _ e, fun i x v e1 e2 e3 => ?_⟩, I1.free, fun p hp => (nomatch hp), I1.len⟩
    obtain ⟨u, r, k⟩ := hv i x v e1 e2 e3
    rcases k with ⟨k1, k2⟩ | ⟨k1 | k1, _⟩
    · exact ⟨u, r, k1, k2⟩
    · exact ((nk x).1 k1).elim
    · exact ((nk x).2 k1).elim
structure GFn (P : Program) (w : World) (K : PySem.W.Frag) (mg : Str → Option Value) (base : Heap) (k : Nat) (x : Str) {ι : Type} (S : GSpec ι) : Prop where
  ex : ∃ (f : Addr) (fd : FuncData) (ps N : List Str) (qual : Str) (scope : Scope) (cdv : Value) (body : List Stmt), mg x = some (.ref f) ∧ PySem.W.keepIn K (.ref f) = true ∧ Binds K fd ps [] ∧ scope.kind = .function ∧ NoCells scope ∧ (∀ i, S.dom i → (S.args i).length = ps.length) ∧ ps.length ≤ N.length ∧
    (∀ (A : Around) (outer : List PySem.Env) (s : Shared) (H : Hp) (args : Args) (us : List Value) (vs : List V), A.depth < recursionLimit → A.handled = none → Env0 P w K mg base A outer s H → BindsTo s fd args (ps.zip us) → Vals vs us → vs.length = ps.length →
      codeAny (model P w) A (.call (.ref f) args) (fun r s' => ∃ a, r = .ok (.ret (.ref a)) ∧ ∀ A' o', MadeG ⟨P, w, K, mg, base, N, qual, scope, f, cdv, A', o', s.heap.objs.size, a⟩ body vs H s s') s) ∧
    ∀ (g : GP), g = ⟨P, w, K, mg, base, N, qual, scope, f, cdv, g.A, g.outer, g.n, g.a⟩ → Room k g.A → ∀ i, S.dom i → Sleeps g (S.fin i) (S.items i) (.func body g.env) ((model g.P g.w).den (.func body g.env)) [] [] ⟨(S.args i).map some ++ List.replicate (N.length - ps.length) none, S.O0 i⟩
/-- a generator def, by its body -/
theorem GFn.mk0 {P : Program} {w : World} {K : PySem.W.Frag} {mg : Str → Option Value} {base : Heap} {k : Nat} {x qual : Str} {params : Arguments} {body : List Stmt} {scope : Scope} {f : Addr} {fd : FuncData} {ι : Type} {S : GSpec ι} {N ps : List Str}
    (F : FunD K x qual params body scope [] [] f fd) (sc : GScope N ps scope) (nc : NoCells scope) (hm : mg x = some (.ref f))
    (hb : ∀ (kV doc pm : Value) (an : Option Addr) (cdv ct : Value) (us : List Value), us.length = ps.length → bindArgs (PySem.W.fnOf x qual params body scope .none kV doc pm an cdv ct) ⟨us, []⟩ = pure (ps.zip us))
    (hlen : ∀ i, S.dom i → (S.args i).length = ps.length)
    (h : ∀ (g : GP), g.P = P → g.w = w → g.K = K → g.mg = mg → g.base = base → g.N = N → g.qual = qual → g.scope = scope → g.f = f → Room k (g.A.deeper g.env) → ∀ i, S.dom i →
      GWs g (S.fin i) [] body ⟨fun its E => its = [] ∧ S.fin i E.O, fun _ _ => False, fun _ _ => False, fun its E => its = [] ∧ S.fin i E.O⟩ (S.items i) ⟨(S.args i).map some ++ List.replicate (N.length - ps.length) none, S.O0 i⟩) : GFn P w K mg base (k + 1) x S := by
  have hbd := F.bindsN hb
  obtain ⟨oc, od, dV, kV, doc, pm, an, cdv, ct, osl, e, lk, hcd, _, _⟩ := F.ex
  subst e
  refine ⟨f, _, ps, N, qual, scope, cdv, body, hm, F.kp, hbd, sc.kind, nc, hlen, ?_, fun A outer s H args us vs h1 h2 e0 hb r hl => made_of lk hcd sc nc h1 h2 e0 hb r hl, fun g hg hr i hi => ?_⟩
  · have := congrArg List.length sc.pre
    rw [List.length_take] at this
    omega
  · refine sl_point ?_
    have hk := h g (by rw [hg]) (by rw [hg]) (by rw [hg]) (by rw [hg]) (by rw [hg]) (by rw [hg]) (by rw [hg]) (by rw [hg]) (by rw [hg]) (hr.deeper _) i hi
    show Sleeps g _ _ _ (((execs body g.env).onRaise (leaving g.env)) >>= fun f => match f with | Flow.ret v => ret v | _ => ret Value.none) [] [] _
    rw [Sem.onRaise_eq_wrap, Sem.bind_eq_wrap', Sem.wrap_wrap]
    refine hk _ [] _ _ _ _ ⟨over_func, rfl, rfl, rfl, fun p hp => (nomatch hp)⟩ fun fl its E p => ?_
    have done : ∀ {its : List Item} {E : Env} {v : Value}, v = .none → its = [] → S.fin i E.O → Sleeps g (S.fin i) its (.func body g.env) (.pure (.done (.ret v))) [] [] E := fun {its E v} ev h1 h2 => by
      subst ev h1
      intro s_1 H_1 bd σ H s hs I gd
      exact sx_end (.ok (.ret .none)) ⟨.inl rfl, E, [], σ, H, I, gd, h2⟩
    cases fl with
    | next => exact done rfl p.1 p.2
    | brk => exact p.elim
    | cont => exact p.elim
    | ret u => exact done p.1 p.2.1 p.2.2
end Lx

/-! for x in g(..): .. -/
namespace Lx
open PySem PySem.Spec PyProof.Rows L2 GenW

section
variable {X : Cx} {pins pg : List (Addr × Obj)} {σ : L2.St} {H : Hp} {s s' : Shared} {K : PySem.W.Frag} {bd : Bd} {G : List (Option En)}
theorem Inv.regen {Γ : Array GenState} (I : L2.Inv X pins σ H s) (hb : AllBare Γ) : L2.Inv X pins σ H { s with gens := Γ } := I.call' (ch := []) rfl Un.refl I.hok hb ExOk.nil
/-- from a state in which the sleepers stick -/
theorem Inv.unpz {sp : Shared} {Γ : Array GenState} (I : L2.Inv X pins σ H sp) (z : Pz Γ s' sp) (hb : AllBare Γ) : L2.Inv X pins σ H s' := by
  have q := Inv.regen (Γ := s'.gens) I (z.bare hb I.bare)
  rw [← z.eq] at q
  exact q
theorem Good.lendS {Of Or : List OE} (g : Good K bd σ H ⟨G, Of ++ Or⟩) : Good K (lendB bd H (Of ++ Or) Of Or) σ H ⟨G, Of⟩ := by
  have g0 := g.lend (Of := Of) (Or := Or) (rs := []) (vs := []) (List.Perm.refl _) rfl
  have e := (g.backX (List.Perm.refl _) g0).2.2
  exact g0.re (by rw [e]; exact g.slots)
theorem Good.backS {Of Or O1 : List OE} {σ' : L2.St} {H' : Hp} {G' : List (Option En)} (g : Good K bd σ H ⟨G, Of ++ Or⟩) (g' : Good K (lendB bd H (Of ++ Or) Of Or) σ' H' ⟨G', O1⟩) :
    Good K bd σ' H' ⟨G', O1 ++ Or⟩ ∧ Ext (stab bd.Oc H (Of ++ Or)) (stab bd.Oc H' (O1 ++ Or)) ∧ stab (lendB bd H (Of ++ Or) Of Or).Oc H' O1 = stab bd.Oc H' (O1 ++ Or) := by
  obtain ⟨b1, b2, b3⟩ := g.backX (List.Perm.refl _) g'
  exact ⟨b1.re (by rw [← b3]; exact g'.slots), b2, b3⟩
end

section
variable {X : Cx} {ι : Type} {S : GSpec ι} {k : Nat} {x : Str} {p cpos pos : Pos} {e tg : Expr} {es : List Expr} {body : List Stmt} {G : List (Option En)} {O O1 Or : List OE} {nx bk ct : Env → Prop} {rt : En → List OE → Prop}
/-- what holds at the head of a turn -/
structure Turn (X : Cx) (fin : List OE → Prop) (pins : List (Addr × Obj)) (bd : Bd) (I : List Item → Env → Prop) (g : GP) (its : List Item) (s : Shared) (b : Bool) : Prop where
  ex : ∃ (pg : List (Addr × Obj)) (E : Env) (σg σ : L2.St) (H : Hp) (G : List (Option En)) (O : List OE), L2.Inv X pins σ H s ∧ Held X g fin its pins pg E σg H s b ∧ Good X.K bd σ H ⟨G, E.O ++ O⟩ ∧ Slots X.K (stab bd.Oc H (E.O ++ O)) E.G σg ∧ I its ⟨G, O⟩
theorem perm3 {N Og O : List OE} : ((N ++ Og) ++ O).Perm ((N ++ O) ++ Og) := by
  rw [List.append_assoc, List.append_assoc]
  exact List.Perm.append_left N List.perm_append_comm
theorem ws_forG (F : GFn X.prog X.w X.K X.mg X.base k x S) (hr : Room (k + 1) X.A) (i : ι) (hi : S.dom i) (ha : EA X (e :: es) ⟨G, O⟩ (S.args i) O1) (hp : O1.Perm (S.O0 i ++ Or)) (I : List Item → Env → Prop) (h0 : I (S.items i) ⟨G, Or⟩)
    (hs : ∀ it its G O r N, I (it :: its) ⟨G, O⟩ → it r N → ∃ G2 O2, WG X tg r ⟨G, N ++ O⟩ ⟨G2, O2⟩ ∧ WSs X body ⟨I its, rt, nx, I its, fun _ _ _ => False⟩ ⟨G2, O2⟩)
    (hd : ∀ G O Og, I [] ⟨G, O⟩ → S.fin i Og → nx ⟨G, Og ++ O⟩) (hx : ∀ e s, X.xe e s → False) (hg : Gl X x := by rfl) (hc : X.calm = true := by rfl)
    (hdb : (x == ("__debug__" : Str)) = false := by decide) (he : starEach (e :: es) X.env = (false, eval e X.env) :: starEach es X.env := by rfl) (hpl : (backTo cpos (starEach es X.env)).any (·.1) = false := by rfl)
    (hf : ∀ x', foldedSetIterable (.Call (.Name x p) (e :: es) [] cpos) X.env x' = pure x' := by intro _; rfl) :
    WS X (.For tg (.Call (.Name x p) (e :: es) [] cpos) body [] pos) ⟨nx, rt, bk, ct, fun _ _ _ => False⟩ ⟨G, O⟩ := fun bd σ H gd0 D kc => by
  intro pins s I0
  obtain ⟨f, fd, ps, N, qual, scope, cdv, fbody, hm, hkeep, hbd, hkd, nc, hlen, hpn, hrun, hsl⟩ := F.ex
  have nox : ∀ {e : Value} {s : Shared} {Q : Prop}, X.xe e s → Q := fun h => (hx _ _ h).elim
  have dep : X.A.depth < recursionLimit := hr.depth
  have hpass : PassesOwn (model X.prog X.w) X.A X.env X.xe := fun e s h => nox h
  refine wpAny_For ?_ hf
  refine wpAny_Call_Name_kw (ld_glob I0 hg hm ?_ hdb)
  refine PySem.W.callWith_K (h₀ := X.base) I0.ok.mod.kin hkeep (thn (ha bd σ H gd0 (fun vs H1 => Good X.K bd σ H1 ⟨G, O1⟩ ∧ EnsOk X.K (stab bd.Oc H1 O1) (S.args i) vs) (fun vs H1 g1 _ ok => ⟨g1, ok⟩) cpos pins s I0) fun us s1 ⟨vs, H1, I1, r, g1, ok⟩ => ⟨I1.kIn, ?_⟩) he hpl
  have hlv : vs.length = ps.length := by rw [ok.length, hlen i hi]
  have hlu : us.length = ps.length := by rw [← r.length, hlv]
  have hbind := hbd s1 us I1.kIn (by rw [List.append_nil]; exact hlu)
  rw [List.append_nil] at hbind
  refine wpAny_call (codeAny_mono (hrun X.A X.stack s1 H1 ⟨us, []⟩ us vs dep (I1.ok.hd hc) I1.env0 hbind r hlv) fun rr s2 hq => ?_)
  obtain ⟨a, er, hmade⟩ := hq
  subst er
  have M := hmade X.A.in1 X.stack
  have hb2 : AllBare s2.gens := by
    rw [M.gens]
    exact AllBare.push I1.bare rfl
  have I2 : L2.Inv X pins σ H1 s2 := I1.call' (ch := []) M.os (Un.kept M.keep) (I1.hok.kept M.keep) hb2 ExOk.nil
  have hlt : ∀ {b : Addr} {o : Obj}, s1.heap.get? b = some o → b < s1.heap.objs.size := fun h => Heap.lt_size h
  have U : Ours X ⟨X.prog, X.w, X.K, X.mg, X.base, N, qual, scope, f, cdv, X.A.in1, X.stack, s1.heap.objs.size, a⟩ pins :=
    ⟨rfl, rfl, rfl, rfl, rfl, rfl, rfl, hkd, nc.cells _, nc.kind rfl, hc, I1.lt, fun b hb => let ⟨_, o, ho, _⟩ := I1.stack.mem hb; hlt ho, fun y c ec => let ⟨_, o, ho, _⟩ := I1.cell y c ec; hlt ho, fun q hq => hlt (I1.pin q hq).1, I1.sz, Nat.le_trans I1.ok.bsz I1.sz⟩
  obtain ⟨g2, e2⟩ := g1.perm hp
  have start0 : Turn X (S.fin i) pins bd I ⟨X.prog, X.w, X.K, X.mg, X.base, N, qual, scope, f, cdv, X.A.in1, X.stack, s1.heap.objs.size, a⟩ (S.items i) s2 false := by
    refine ⟨[], ⟨(S.args i).map some ++ List.replicate (N.length - ps.length) none, S.O0 i⟩, start N vs, σ, H1, G, Or, I2, ⟨U, M.frm, I1.hok.fresh (Nat.le_of_lt M.above), M.above, fun q hq => (nomatch hq), s1.gens.size, .fresh (.func fbody (GP.env ⟨X.prog, X.w, X.K, X.mg, X.base, N, qual, scope, f, cdv, X.A.in1, X.stack, s1.heap.objs.size, a⟩)), M.gen, ?_, ?_, fun z => (nomatch z)⟩, g2, ?_, h0⟩
    · rw [M.gens]
      exact Array.getElem?_push_size
    · exact hsl _ rfl hr.in1 i hi
    · rw [start_eq, hlv, ← e2]
      exact (Slots.of_ens ok).append (Slots.nones _)
  show wpAny _ X.A (pyIter (.ref a)) _ _ s2
  refine wpAny_pyIter_gen M.gen ?_
  refine codeAny_forLoop_any (fun n s3 => ∃ its b, n = its.length ∧ Turn X (S.fin i) pins bd I ⟨X.prog, X.w, X.K, X.mg, X.base, N, qual, scope, f, cdv, X.A.in1, X.stack, s1.heap.objs.size, a⟩ its s3 b) ?_ _ ⟨_, _, rfl, start0⟩
  rintro n s3 ⟨its, b, rfl, pg, E, σg, σ3, H3, G3, O3, I3, h3, g3, sl3, i3⟩
  refine wpAny_passesOwn hpass (thn (next_held I3 dep h3 g3 sl3) fun r3 s4 hn => ?_)
  cases its with
  | nil =>
    obtain ⟨er, Og, H4, I4, g4, hfin, _⟩ := hn
    subst er
    exact wpAny_execs_nil ⟨σ3, H4, I4, kc.nx _ _ _ g4 (hd G3 O3 Og i3 hfin)⟩
  | cons it its =>
    obtain ⟨u, er, r, NN, v, E4, pg4, σ4, H4, hit, h4, I4, g4, sl4, rv, ok4, _⟩ := hn
    subst er
    obtain ⟨U4, F4, fa4, ab4, ap4, gg, gs, hg4, hgs4, hgo4, hsl4⟩ := h4
    obtain ⟨go, _, _, hgo, hgc, hgd, _⟩ := id hg4
    refine go_of (o := go) (n := "generator") hgo hgc hgd (by decide) ?_
    -- the sleeper's objects are pinned
    obtain ⟨m, ⟨lo, les, lep, hlo, hld, hlr⟩, hlv4⟩ := F4.loc
    have nst : ∀ {c : Addr}, s1.heap.objs.size ≤ c → c ≠ X.env.locals ∧ c ∉ X.fs := fun {c} hle => by
      refine ⟨Nat.ne_of_gt (Nat.lt_of_lt_of_le U4.loc hle), fun z => ?_⟩
      have : c ∈ frs X.stack := by
        rcases I4.ok.stk with q | ⟨q, qf⟩
        · rw [q]; exact z
        · rw [q]
          unfold frs
          rw [List.filterMap_cons, qf]
          exact List.mem_cons_of_mem _ z
      exact absurd (U4.stk c this) (Nat.not_lt_of_ge hle)
    have I4p : L2.Inv X (pins ++ ((s1.heap.objs.size, lo) :: (a, go) :: pg4)) σ3 H4 s4 := I4.pins_of fun q hq => by
      rcases List.mem_append.mp hq with hq | hq
      · exact I4.pin q (List.mem_append_right _ hq)
      · rcases List.mem_cons.mp hq with hq | hq
        · subst hq
          exact ⟨hlo, F4.free, (nst (Nat.le_refl _)).1, (nst (Nat.le_refl _)).2, fun v z => by rw [hld] at z; cases z⟩
        · rcases List.mem_cons.mp hq with hq | hq
          · subst hq
            exact ⟨hgo, fa4, (nst (Nat.le_of_lt ab4)).1, (nst (Nat.le_of_lt ab4)).2, fun v z => by rw [hgd] at z; cases z⟩
          · obtain ⟨q1, q2, q3, q4⟩ := F4.pin q hq
            exact ⟨q1, q2, (nst (Nat.le_of_lt q3)).1, (nst (Nat.le_of_lt q3)).2, q4⟩
    -- ours are lent to the turn
    obtain ⟨g5, e5⟩ := g4.perm (perm3 (N := NN) (Og := E4.O) (O := O3))
    have gl := g5.lendS
    have el := (g5.backS gl).2.2
    obtain ⟨G6, O6, hw, hbody⟩ := hs it its G3 O3 r NN i3 hit
    have okl : EnOk X.K (stab (lendB bd H4 ((NN ++ O3) ++ E4.O) (NN ++ O3) E4.O).Oc H4 (NN ++ O3)) r v := by
      rw [el, ← e5]
      exact ok4
    have sleeper : Sleeper gs := hsl4 rfl
    refine wpAny_passesOwn hpass (wpAny_mono (wpAny_pz (hw _ σ3 H4 v gl okl (fun σ6 H6 => Good X.K (lendB bd H4 ((NN ++ O3) ++ E4.O) (NN ++ O3) E4.O) σ6 H6 ⟨G6, O6⟩ ) (fun σ6 H6 g6 _ => g6) _ _ u (Inv.regen I4p (allBare_stuck I4p.bare)) rv)) (fun _ s6 ⟨sp6, z6, σ6, H6, I6, g6⟩ => ?_) fun _ _ ⟨_, _, z⟩ => nox z)
    have I6' := Inv.unpz I6 z6 I4p.bare
    have gs6 := z6.keeps hgs4 sleeper
    refine wpAny_passesOwn hpass (wpAny_mono (wpAny_pz (hbody _ σ6 H6 g6 { nx := fun σ7 H7 => ∃ E7, Good X.K (lendB bd H4 ((NN ++ O3) ++ E4.O) (NN ++ O3) E4.O) σ7 H7 E7 ∧ I its E7, ct := fun σ7 H7 => ∃ E7, Good X.K (lendB bd H4 ((NN ++ O3) ++ E4.O) (NN ++ O3) E4.O) σ7 H7 E7 ∧ I its E7, bk := fun σ7 H7 => ∃ E7, Good X.K (lendB bd H4 ((NN ++ O3) ++ E4.O) (NN ++ O3) E4.O) σ7 H7 E7 ∧ nx E7, rt := fun v7 H7 => ∃ r7 O7, Good X.K (lendB bd H4 ((NN ++ O3) ++ E4.O) (NN ++ O3) E4.O) [some v7] H7 ⟨[some r7], O7⟩ ∧ rt r7 O7 }
      ⟨fun σ7 H7 E7 g7 p7 => ⟨E7, g7, p7⟩, fun v7 H7 r7 O7 g7 p7 => ⟨r7, O7, g7, p7⟩, fun σ7 H7 E7 g7 p7 => ⟨E7, g7, p7⟩, fun σ7 H7 E7 g7 p7 => ⟨E7, g7, p7⟩, takes_none fun _ _ _ _ ⟨_, _, _, _, _, z⟩ => z⟩ _ _ (Inv.regen I6' (allBare_stuck I6'.bare)))) (fun f7 s7 ⟨sp7, z7, q7⟩ => ?_) fun _ _ ⟨_, _, z⟩ => nox z)
    have un : ∀ {σ7 : L2.St} {H7 : Hp}, L2.Inv X (pins ++ ((s1.heap.objs.size, lo) :: (a, go) :: pg4)) σ7 H7 s7 → L2.Inv X pins σ7 H7 s7 := fun J => J.pins_of fun q hq => J.pin q (List.mem_append_right _ (List.mem_append_left _ hq))
    have again : ∀ {σ7 : L2.St} {H7 : Hp} {E7 : Env}, L2.Inv X (pins ++ ((s1.heap.objs.size, lo) :: (a, go) :: pg4)) σ7 H7 sp7 → Good X.K (lendB bd H4 ((NN ++ O3) ++ E4.O) (NN ++ O3) E4.O) σ7 H7 E7 → I its E7 →
        ∃ m, m < (it :: its).length ∧ ∃ its' b', m = its'.length ∧ Turn X (S.fin i) pins bd I ⟨X.prog, X.w, X.K, X.mg, X.base, N, qual, scope, f, cdv, X.A.in1, X.stack, s1.heap.objs.size, a⟩ its' s7 b' := fun {σ7 H7 E7} I7 g7 p7 => by
      have I7' := Inv.unpz I7 z7 I6'.bare
      have pinAt : ∀ q ∈ ((s1.heap.objs.size, lo) :: (a, go) :: pg4), s7.heap.get? q.1 = some q.2 ∧ H7 q.1 = none := fun q hq =>
        let t := I7'.pin q (List.mem_append_right _ (List.mem_append_right _ hq))
        ⟨t.1, t.2.1⟩
      have pl := pinAt _ List.mem_cons_self
      have pa := pinAt _ (List.mem_cons_of_mem _ List.mem_cons_self)
      obtain ⟨b1, b2, b3⟩ := g5.backS g7
      obtain ⟨b4, b5⟩ := b1.perm (List.perm_append_comm (l₁ := E7.O) (l₂ := E4.O))
      refine ⟨its.length, Nat.lt_succ_self _, its, true, rfl, pg4, E4, σ4, σ7, H7, E7.G, E7.O, un I7', ⟨U, ⟨⟨m, ⟨lo, les, lep, pl.1, hld, hlr⟩, hlv4⟩, pl.2, fun q hq => ?_, F4.len⟩, pa.2, ab4, ap4, gg, gs, ?_, z7.keeps gs6 sleeper, hgo4, fun _ => sleeper⟩, b4, ?_, p7⟩
      · have t := pinAt q (List.mem_cons_of_mem _ (List.mem_cons_of_mem _ hq))
        exact ⟨t.1, t.2, (F4.pin q hq).2.2⟩
      · obtain ⟨go', nm, qn, h1, h2, h3, h4⟩ := hg4
        have eg : go' = go := by
          rw [h1] at hgo
          exact Option.some.inj hgo
        subst eg
        exact ⟨go', nm, qn, pa.1, h2, h3, h4⟩
      · rw [e5] at sl4
        have := sl4.mono b2
        rw [b5] at this
        exact this
    cases f7 with
    | next =>
      obtain ⟨σ7, H7, I7, E7, g7, p7⟩ := q7
      exact again I7 g7 p7
    | cont =>
      obtain ⟨σ7, H7, I7, E7, g7, p7⟩ := q7
      exact again I7 g7 p7
    | brk =>
      obtain ⟨σ7, H7, I7, E7, g7, p7⟩ := q7
      obtain ⟨b1, _, _⟩ := g5.backS g7
      exact ⟨σ7, H7, un (Inv.unpz I7 z7 I6'.bare), kc.nx _ _ _ (b1.drop (List.sublist_append_left _ _)).1 p7⟩
    | ret u7 =>
      obtain ⟨v7, σ7, H7, I7, r7, rr7, O7, g7, p7⟩ := q7
      obtain ⟨b1, _, _⟩ := g5.backS g7
      exact ⟨v7, σ7, H7, un (Inv.unpz I7 z7 I6'.bare), r7, kc.rt _ _ _ _ (b1.drop (List.sublist_append_left _ _)).1 p7⟩
end
end Lx

/-! a comprehension with two for; nothing that is owned changes within. -/
namespace Lx
open PySem PySem.Spec PyProof.Rows L2
theorem IW.frame {X : Cx} {tg iter : Expr} {G : List (Option En)} {O O1 : List OE} {n : Nat} {f : Nat → En} {C : List OE → Prop} (h : IW X tg iter ⟨G, O⟩ n f O1 C) (q : OE) : IW X tg iter ⟨G, q :: O⟩ n f (q :: O1) C := fun bd σ H g R k => by
  obtain ⟨p, o⟩ := q
  obtain ⟨u, hu, _⟩ := g.obj (j := 0) rfl
  refine h (frB bd H p u) σ H (g.fr hu) R fun J H1 g1 x it => ?_
  have x' : Ext (stab bd.Oc H ((p, o) :: O)) (stab bd.Oc H1 ((p, o) :: O1)) := by
    rw [← stab_fr (q := (p, o)), ← stab_fr (q := (p, o))]
    exact x
  refine k J H1 (g.unfr hu g1 x') x' ?_
  rw [← stab_fr (q := (p, o))]
  exact it
section
variable {X : Cx} {elt tg iter tg1 iter1 : Expr} {ifs ifs1 : List Expr} {scope : Scope} {own' : List (Str × Nat)} {pos : Pos} {G : List (Option En)} {O : List OE} {O1 : List OE} {n : Nat} {f : Nat → En} {C : List OE → Prop}
def iB (X : Cx) (scope : Scope) (tg iter : Expr) : TI := fun σ H R => ∀ s H0 Ca cl fp, tI (Blk X scope s H0 Ca cl fp) tg iter σ H R
theorem pi_B (s : Shared) (H : Hp) (Ca : Addr) (cl : List (Str × Addr)) (fp : List Addr) : PI (Blk X scope s H Ca cl fp) tg iter (iB X scope tg iter) := ⟨fun pins t _ _ _ I h => h s H Ca cl fp pins t I⟩
/-- the inner loop of a turn -/
structure In2 (X : Cx) (scope : Scope) (elt tg1 iter1 : Expr) (ifs1 : List Expr) (vs1 : List Nat) (G2 : List (Option En)) (O : List OE) (m : Nat) (b1 : Nat → Bool) (g1 : Nat → En) : Prop where
  ex : ∃ (f1 : Nat → En) (C1 : List OE → Prop), (∀ s H Ca cl fp, IW (Blk X scope s H Ca cl fp) tg1 iter1 ⟨G2, O⟩ m f1 O C1) ∧ (∀ q, C1 (q :: O)) ∧ m ≤ sizeLine ∧ ∀ j, j < m → ∃ G3, (∀ s H Ca cl fp, WGN (Blk X scope s H Ca cl fp) tg1 (f1 j) vs1 ⟨wipeG G2 vs1, O⟩ ⟨G3, O⟩) ∧
    (∀ s H Ca cl fp, ETs (Blk X scope s H Ca cl fp) ifs1 ⟨G3, O⟩ (b1 j) O) ∧ (b1 j = true → ∀ s H Ca cl fp, EV (Blk X scope s H Ca cl fp) elt ⟨G3, O⟩ (g1 j) O)
structure Lc2Turn (X : Cx) (scope : Scope) (elt tg tg1 iter1 : Expr) (ifs ifs1 : List Expr) (vs vs1 : List Nat) (r : En) (G : List (Option En)) (O : List OE) (b : Bool) (m : Nat) (b1 : Nat → Bool) (g1 : Nat → En) : Prop where
  ex : ∃ G2, (∀ s H Ca cl fp, WGN (Blk X scope s H Ca cl fp) tg r vs ⟨wipeG G vs, O⟩ ⟨G2, O⟩) ∧ (∀ s H Ca cl fp, ETs (Blk X scope s H Ca cl fp) ifs ⟨G2, O⟩ b O) ∧ (b = true → In2 X scope elt tg1 iter1 ifs1 vs1 G2 O m b1 g1)
def lc2Acc (bs : Nat → Bool) (ms : Nat → Nat) (b1 : Nat → Nat → Bool) (g1 : Nat → Nat → En) : Nat → List En
  | 0 => []
  | k + 1 => lc2Acc bs ms b1 g1 k ++ (if bs k = true then lcAcc (b1 k) (g1 k) (ms k) else [])
theorem lc2_read {vs1 : List Nat} (hi : IW X tg iter ⟨G, O⟩ n f O1 C) (bs : Nat → Bool) (ms : Nat → Nat) (b1 : Nat → Nat → Bool) (g1 : Nat → Nat → En) (vs : List Nat) (hC : ∀ q, C (q :: O1)) (hn : ∀ k j, k < n → j < ms k → (lc2Acc bs ms b1 g1 k ++ lcAcc (b1 k) (g1 k) j).length ≤ sizeLine - 1)
    (ht : ∀ k, k < n → Lc2Turn X scope elt tg tg1 iter1 ifs ifs1 vs vs1 (f k) G O1 (bs k) (ms k) (b1 k) (g1 k)) {bd : Bd} {σ : L2.St} {H : Hp} (g : Good X.K bd σ H ⟨G, O⟩) {Q : VK}
    (k : ∀ p H', Good X.K bd σ H' ⟨G, (p, .lst (lc2Acc bs ms b1 g1 n)) :: O1⟩ → Ext (stab bd.Oc H O) (stab bd.Oc H' ((p, .lst (lc2Acc bs ms b1 g1 n)) :: O1)) → Q (.ref p) H') :
    tLc2 (tI X tg iter) (gB X scope tg) (pB X scope ifs) (iB X scope tg1 iter1) (gB X scope tg1) (pB X scope ifs1) (eB X scope elt) vs vs1 σ H Q := hi bd σ H g _ fun J H1 gd1 x1 it => by
  intro D hD
  obtain ⟨g2, x2⟩ := gd1.new (o := .lst []) (u := .lst []) hD ⟨[], rfl, rfl⟩
  let bd1 : Bd := ⟨bd.Oc, bd.B, stab bd.Oc H1 O1⟩
  have sl1 : Slots X.K (stab bd.Oc H1 O1) G σ := gd1.slots
  refine ⟨fun i m H' => m = n - i ∧ i ≤ n ∧ Good X.K bd1 (L2.wipe σ vs) H' ⟨wipeG G vs, (D, .lst (lc2Acc bs ms b1 g1 i)) :: O1⟩, ⟨n, by simp, Nat.zero_le _, (g2.relow x2).re ((sl1.mono x2).wipe vs)⟩, ?_⟩
  rintro i m H2 ⟨rfl, hin, g3⟩
  by_cases hlt : i < n
  · refine .inr ⟨it.go i _ _ H2 _ _ hlt g3 g3.low (hC _), fun H' => Good X.K bd1 (L2.wipe σ vs) H' ⟨wipeG G vs, (D, .lst (lc2Acc bs ms b1 g1 (i + 1))) :: O1⟩, fun H' h => ⟨n - (i + 1), by omega, rfl, hlt, h⟩, fun x H3 y => ?_⟩
    obtain ⟨g4, x4, ok4⟩ := it.yld i _ _ H2 _ _ x H3 hlt g3 g3.low (hC _) y
    obtain ⟨G2, t1, t2, t3⟩ := (ht i hlt).ex
    have sl3 : Slots X.K (stab bd1.Oc H3 ((D, OO.lst (lc2Acc bs ms b1 g1 i)) :: O1)) (wipeG G vs) (L2.wipe σ vs) := g4.slots
    intro s H0 C0 cl fp
    refine frame_WGN (t1 s H0 C0 cl fp) (D, .lst (lc2Acc bs ms b1 g1 i)) bd1 _ H3 x g4 ok4 _ (fun σ2 l2 u2 g5 => ⟨wipe_of l2 u2, ?_⟩) rfl
    intro s H0 C0 cl fp
    refine (t2 s H0 C0 cl fp).frame (D, .lst (lc2Acc bs ms b1 g1 i)) bd1 σ2 H3 g5 _ fun H5 g6 x6 => ?_
    cases hb : bs i with
    | false =>
      refine iteF ?_
      show Good X.K bd1 (L2.wipe σ vs) H5 ⟨wipeG G vs, (D, .lst (lc2Acc bs ms b1 g1 i ++ _)) :: O1⟩
      rw [if_neg (by rw [hb]; exact Bool.false_ne_true), List.append_nil]
      exact g6.re (sl3.mono x6)
    | true =>
      refine iteT ?_
      obtain ⟨f1, C1, h1, hC1, hm, hstep⟩ := (t3 hb).ex
      intro s H0 C0 cl fp
      refine (h1 s H0 C0 cl fp).frame (D, .lst (lc2Acc bs ms b1 g1 i)) bd1 σ2 H5 g6 _ fun J1 H6 g7 x7 it1 => ?_
      let bd2 : Bd := ⟨bd.Oc, bd.B, stab bd.Oc H6 ((D, OO.lst (lc2Acc bs ms b1 g1 i)) :: O1)⟩
      have sl6 : Slots X.K (stab bd.Oc H6 ((D, OO.lst (lc2Acc bs ms b1 g1 i)) :: O1)) G2 σ2 := g7.slots
      refine ⟨fun j m H' => m = ms i - j ∧ j ≤ ms i ∧ Good X.K bd2 (L2.wipe σ2 vs1) H' ⟨wipeG G2 vs1, (D, .lst (lc2Acc bs ms b1 g1 i ++ lcAcc (b1 i) (g1 i) j)) :: O1⟩, ⟨ms i, by simp, Nat.zero_le _, ?_⟩, ?_⟩
      · have z : lcAcc (b1 i) (g1 i) 0 = [] := rfl
        rw [z, List.append_nil]
        exact (g7.relow (Ext.refl _)).re (sl6.wipe vs1)
      · rintro j m H7 ⟨rfl, hjm, g8⟩
        have low8 : Ext bd2.S (stab bd.Oc H7 ((D, OO.lst (lc2Acc bs ms b1 g1 i ++ lcAcc (b1 i) (g1 i) j)) :: O1)) := g8.low
        by_cases hjl : j < ms i
        · refine .inr ⟨it1.go j _ _ H7 _ _ hjl g8 low8 (hC1 _), fun H' => Good X.K bd2 (L2.wipe σ2 vs1) H' ⟨wipeG G2 vs1, (D, .lst (lc2Acc bs ms b1 g1 i ++ lcAcc (b1 i) (g1 i) (j + 1))) :: O1⟩, fun H' h => ⟨ms i - (j + 1), by omega, rfl, hjl, h⟩, fun y H8 yy => ?_⟩
          obtain ⟨g9, x9, ok9⟩ := it1.yld j _ _ H7 _ _ y H8 hjl g8 low8 (hC1 _) yy
          obtain ⟨G3, u1, u2, u3⟩ := hstep j hjl
          have sl9 : Slots X.K (stab bd2.Oc H8 ((D, OO.lst (lc2Acc bs ms b1 g1 i ++ lcAcc (b1 i) (g1 i) j)) :: O1)) (wipeG G2 vs1) (L2.wipe σ2 vs1) := g9.slots
          intro s H0 C0 cl fp
          refine frame_WGN (u1 s H0 C0 cl fp) (D, .lst (lc2Acc bs ms b1 g1 i ++ lcAcc (b1 i) (g1 i) j)) bd2 _ H8 y g9 ok9 _ (fun σ3 l3 v3 g10 => ⟨wipe_of l3 v3, ?_⟩) rfl
          intro s H0 C0 cl fp
          refine (u2 s H0 C0 cl fp).frame (D, .lst (lc2Acc bs ms b1 g1 i ++ lcAcc (b1 i) (g1 i) j)) bd2 σ3 H8 g10 _ fun H9 g11 x11 => ?_
          cases hb1 : b1 i j with
          | true =>
            refine iteT ?_
            intro s H0 C0 cl fp
            refine ((u3 hb1 s H0 C0 cl fp).frame (D, .lst (lc2Acc bs ms b1 g1 i ++ lcAcc (b1 i) (g1 i) j))).use g11 fun w H10 g12 x12 ok12 => ?_
            obtain ⟨u, e1, ws, rfl, okw⟩ := g12.obj (j := 0) rfl
            refine ⟨ws, e1, ?_, ?_⟩
            · rw [okw.length]
              have := hn i j hlt hjl
              have z : 0 < sizeLine := by decide
              omega
            obtain ⟨g13, e13⟩ := g12.put (j := 0) (o := .lst ((lc2Acc bs ms b1 g1 i ++ lcAcc (b1 i) (g1 i) j) ++ [g1 i j])) (u := .lst (ws ++ [w])) rfl ⟨_, rfl, okw.append (EnsOk.one ok12)⟩
            rw [lcAcc_succ, if_pos hb1, ← List.append_assoc]
            have g14 : Good X.K bd2 σ3 (upd H10 D (.lst (ws ++ [w]))) ⟨G3, (D, .lst ((lc2Acc bs ms b1 g1 i ++ lcAcc (b1 i) (g1 i) j) ++ [g1 i j])) :: O1⟩ := g13
            refine g14.re ?_
            have e9 : stab bd2.Oc (upd H10 D (.lst (ws ++ [w]))) ((D, .lst ((lc2Acc bs ms b1 g1 i ++ lcAcc (b1 i) (g1 i) j) ++ [g1 i j])) :: O1) = stab bd2.Oc H10 ((D, .lst (lc2Acc bs ms b1 g1 i ++ lcAcc (b1 i) (g1 i) j)) :: O1) := e13
            show Slots X.K (stab bd2.Oc (upd H10 D (.lst (ws ++ [w]))) ((D, .lst ((lc2Acc bs ms b1 g1 i ++ lcAcc (b1 i) (g1 i) j) ++ [g1 i j])) :: O1)) _ _
            rw [e9]
            exact (sl9.mono x11).mono x12
          | false =>
            refine iteF ?_
            rw [lcAcc_succ, if_neg (by rw [hb1]; exact Bool.false_ne_true)]
            exact g11.re (sl9.mono x11)
        · have e : j = ms i := by omega
          subst e
          refine .inl ⟨it1.stop _ _ H7 _ _ g8 low8 (hC1 _), ?_⟩
          show Good X.K bd1 (L2.wipe σ vs) H7 ⟨wipeG G vs, (D, .lst (lc2Acc bs ms b1 g1 i ++ _)) :: O1⟩
          rw [if_pos hb]
          have low1 : Ext bd1.S (stab bd.Oc H6 ((D, OO.lst (lc2Acc bs ms b1 g1 i)) :: O1)) := g7.low
          have g15 : Good X.K bd1 (L2.wipe σ2 vs1) H7 ⟨wipeG G2 vs1, (D, .lst (lc2Acc bs ms b1 g1 i ++ lcAcc (b1 i) (g1 i) (ms i))) :: O1⟩ := g8.relow (low1.trans low8)
          exact g15.re (((sl3.mono x6).mono x7).mono low8)
  · have e : i = n := by omega
    subst e
    refine .inl ⟨it.stop _ _ H2 _ _ g3 g3.low (hC _), k D H2 ?_ (x1.trans g3.low)⟩
    have g4 : Good X.K bd1 σ H2 ⟨G, (D, .lst (lc2Acc bs ms b1 g1 i)) :: O1⟩ := g3.re (sl1.mono g3.low)
    exact g4.relow (gd1.low.trans g3.low)
theorem en_lc2 {vs1 : List Nat} (hi : IW X tg iter ⟨G, O⟩ n f O1 C) (bs : Nat → Bool) (ms : Nat → Nat) (b1 : Nat → Nat → Bool) (g1 : Nat → Nat → En) (ok : BlkOk X.N X.env.scope scope own') (hv : ∀ i ∈ vs1, i ∈ own'.map (·.2)) (hN : X.N.Nodup) (hC : ∀ q, C (q :: O1)) (hn : ∀ k j, k < n → j < ms k → (lc2Acc bs ms b1 g1 k ++ lcAcc (b1 k) (g1 k) j).length ≤ sizeLine - 1)
    (ht : ∀ k, k < n → Lc2Turn X scope elt tg tg1 iter1 ifs ifs1 (own'.map (·.2)) vs1 (f k) G O1 (bs k) (ms k) (b1 k) (g1 k)) (hc : X.calm = true := by rfl) (hs : ∀ x, foldedSetIterable iter X.env x = pure x := by intro _; rfl) (hs1 : ∀ env x, foldedSetIterable iter1 env x = pure x := by intro _ _; rfl) :
    EN X (.ListComp elt [⟨tg, iter, ifs, 0⟩, ⟨tg1, iter1, ifs1, 0⟩] scope pos) ⟨G, O⟩ (.lst (lc2Acc bs ms b1 g1 n)) O1 := EN.mk fun bd σ H g Q k =>
  toE (pe_lc2 hc hN piI ok hv pg_B pt_B pi_B pg_B pt_B pe_B hs hs1) (lc2_read hi bs ms b1 g1 _ hC hn ht g k)
theorem ws_setLc2 {vs1 : List Nat} {i : Nat} {y : Str} {py spos : Pos} {nx : Env → Prop} {rt : En → List OE → Prop} {bk ct : Env → Prop} {ex : Addr → List (Str × D) → Env → Prop} (hi : IW X tg iter ⟨G, O⟩ n f O1 C) (bs : Nat → Bool) (ms : Nat → Nat) (b1 : Nat → Nat → Bool) (g1 : Nat → Nat → En) (ok : BlkOk X.N X.env.scope scope own') (hv : ∀ i ∈ vs1, i ∈ own'.map (·.2)) (hN : X.N.Nodup) (hC : ∀ q, C (q :: O1)) (hn : ∀ k j, k < n → j < ms k → (lc2Acc bs ms b1 g1 k ++ lcAcc (b1 k) (g1 k) j).length ≤ sizeLine - 1)
    (ht : ∀ k, k < n → Lc2Turn X scope elt tg tg1 iter1 ifs ifs1 (own'.map (·.2)) vs1 (f k) G O1 (bs k) (ms k) (b1 k) (g1 k)) (kk : ∀ p, nx ⟨G.set i (some (.raw (.ref p))), (p, .lst (lc2Acc bs ms b1 g1 n)) :: O1⟩) (hy : X.N[i]? = some y := by rfl) (hyl : X.env.scope.names.lookup y = some .local := by rfl)
    (hsw : swapsWith (.ListComp elt [⟨tg, iter, ifs, 0⟩, ⟨tg1, iter1, ifs1, 0⟩] scope pos) (some (.Name y py)) spos.line X.env = pure true := by exact sw_true rfl rfl rfl (by decide +kernel)) (hc : X.calm = true := by rfl) (hs : ∀ x, foldedSetIterable iter X.env x = pure x := by intro _; rfl) (hs1 : ∀ env x, foldedSetIterable iter1 env x = pure x := by intro _ _; rfl) :
    WS X (.Assign [.Name y py] (.ListComp elt [⟨tg, iter, ifs, 0⟩, ⟨tg1, iter1, ifs1, 0⟩] scope pos) spos) ⟨nx, rt, bk, ct, ex⟩ ⟨G, O⟩ := fun bd σ H g D c =>
  toS (ps_setLc2 hc hN hy hyl hsw piI ok hv pg_B pt_B pi_B pg_B pt_B pe_B hs hs1) (lc2_read hi bs ms b1 g1 _ hC hn ht g fun p H' g' x => c.nx _ _ _ (g'.set (x := .raw (.ref p)) (u := .ref p) i rfl) (kk p))
end
end Lx

/-! steps on what is owned; tuples that are known to be bare; own operators. -/
namespace Lx
open PySem PySem.Spec PyProof.Rows L2

/-! ### publishing, permuting -/
section
variable {K : PySem.W.Frag} {bd : Bd} {σ : L2.St} {H : Hp} {G : List (Option En)} {O O2 : List OE} {X : Cx} {sts : List Stmt} {nx : Env → Prop} {rt : En → List OE → Prop} {bk ct : Env → Prop} {ex : Addr → List (Str × D) → Env → Prop}
theorem Good.pubSlot {p : Addr} {ds : List D} (i : Nat) (g : Good K bd σ H ⟨G, (p, .lst (ds.map .d)) :: O⟩) (hi : G[i]? = some (some (.raw (.ref p)))) : Good K bd σ H ⟨G.set i (some (.d (.lst ds))), O⟩ := by
  obtain ⟨u, e, ok⟩ := g.slot hi
  have e1 : u = .ref p := ok
  subst e1
  obtain ⟨g2, x2, rp⟩ := g.pubLst
  have g3 := g2.set i (x := .d (.lst ds)) rp
  have e2 : σ.set i (some (.ref p)) = σ := by
    refine List.ext_getElem? fun j => ?_
    by_cases hj : i = j
    · subst hj
      rw [List.getElem?_set_self (List.getElem?_eq_some_iff.mp e).1, e]
    · rw [List.getElem?_set_ne hj]
  rw [e2] at g3
  exact g3
theorem ws_pub {p : Addr} {xs : List En} {ds : List D} (i : Nat) (hi : G[i]? = some (some (.raw (.ref p)))) (hx : xs = ds.map .d) (h : WSs X sts ⟨nx, rt, bk, ct, ex⟩ ⟨G.set i (some (.d (.lst ds))), O⟩) : WSs X sts ⟨nx, rt, bk, ct, ex⟩ ⟨G, (p, .lst xs) :: O⟩ := by
  subst hx
  exact ws_weak (fun _ _ _ g => g.pubSlot i hi) h
theorem ws_perm (hp : O.Perm O2) (h : WSs X sts ⟨nx, rt, bk, ct, ex⟩ ⟨G, O2⟩) : WSs X sts ⟨nx, rt, bk, ct, ex⟩ ⟨G, O⟩ := ws_weak (fun _ _ _ g => (g.perm hp).1) h
end
section
variable {g : GP} {fin : List OE → Prop} {pins : List (Addr × Obj)} {sts : List Stmt} {its : List Item} {P : GPost} {E E' : Env}
theorem gw_weak (k : ∀ bd σ H, Good g.K bd σ H E → Good g.K bd σ H E') (h : GWs g fin pins sts P its E') : GWs g fin pins sts P its E := fun c fs K J gd lv gc kk s_1 H_1 bd σ H s hs I g0 => h c fs K J gd lv gc kk s_1 H_1 bd σ H s hs I (k _ _ _ g0)
theorem gw_pub {G : List (Option En)} {O : List OE} {p : Addr} {xs : List En} {ds : List D} (i : Nat) (hi : G[i]? = some (some (.raw (.ref p)))) (hx : xs = ds.map .d) (h : GWs g fin pins sts P its ⟨G.set i (some (.d (.lst ds))), O⟩) : GWs g fin pins sts P its ⟨G, (p, .lst xs) :: O⟩ := by
  subst hx
  exact gw_weak (fun _ _ _ g => g.pubSlot i hi) h
end

/-! ### bare tuples -/
section
variable {X : Cx} {a b e : Expr} {G : List (Option En)} {O O1 O2 : List OE} {x : En} {p pos : Pos}
theorem rep_weakS {K : PySem.W.Frag} {S : Hp} {ds : List D} {v : V} (h : Rep K S (.tupS ds) v) : Rep K S (.tup ds) v := by
  obtain ⟨q, vs, e, h1, h2⟩ := h
  exact ⟨q, vs, e, .inl (.inr h1), h2⟩
theorem ev_tupW {ds : List D} (h : EV X a ⟨G, O⟩ (.d (.tupS ds)) O1) : EV X a ⟨G, O⟩ (.d (.tup ds)) O1 := EV.mk fun bd σ H g Q k => h.use g fun v H1 g1 x1 ok => k v H1 g1 x1 (rep_weakS ok)
theorem call_tupleS : CallR X (.type "tuple") (fun xs H Q => ∃ q ys, xs = [.ref q] ∧ SqL X.K H q ys ∧ ∀ l o, H l = none → o.dict = none → Q (.ref l) (upd H l (.frz o (.tup ys)))) := by
  intro pins s σ H xs us Q I r h
  obtain ⟨q, ys, rfl, hq, k⟩ := h
  obtain ⟨u, rfl, rx⟩ := vals1 r
  cases rx
  obtain ⟨its, rv, pl, hz⟩ := I.list hq
  have hlen := rv.length
  refine call_tuple_list pl.isList (fun h' kp => ?_) (by simp only [List.size_toArray]; omega)
  have J : Inv X pins σ H { s with heap := h' } := I.kept (t' := s.toks) kp
  have J2 : Inv X pins σ (upd H h'.objs.size (.frz { cls := .type "tuple", data := .seq its.toArray } (.tup ys))) { s with heap := h'.push { cls := .type "tuple", data := .seq its.toArray } } :=
    J.laid (t' := s.toks) (fun b o e => Heap.get?_push_of_some _ e) (Nat.le_refl _) (show ObjOk X.prog X.w _ _ _ (.frz _ (.tup ys)) from ⟨Heap.get?_push_size _ rfl, hz, its, rv, IsTup.new _ _⟩)
  exact ⟨.ref h'.objs.size, _, J2, rfl, k _ _ (J.hok.fresh (Nat.le_refl _)) rfl⟩
theorem Good.newTupS {K : PySem.W.Frag} {bd : Bd} {H : Hp} {σ : L2.St} {q : Addr} {ds : List D} {vs : List V} {o : Obj} (g : Good K bd σ H ⟨G, O⟩) (hn : H q = none) (ho : o.dict = none) (hu : Reps K (stab bd.Oc H O) ds vs) :
    Good K bd σ (upd H q (.frz o (.tup vs))) ⟨G, O⟩ ∧ Ext (stab bd.Oc H O) (stab bd.Oc (upd H q (.frz o (.tup vs))) O) ∧ Rep K (stab bd.Oc (upd H q (.frz o (.tup vs))) O) (.tupS ds) (.ref q) := by
  obtain ⟨g1, sm, e⟩ := g.newD (u := .frz o (.tup vs)) hn
  exact ⟨g1, Ext.of_same sm, q, vs, rfl, ⟨o, e, ho⟩, hu.mono (Ext.of_same sm)⟩
theorem ev_tupleS {ds : List D} (hm : X.mg "tuple" = none) (ha : EV X a ⟨G, O⟩ x O1) (hl : LsAt X.K O1 x (ds.map .d)) (hg : Gl X "tuple" := by rfl) (he : starEach [a] X.env = (false, eval a X.env) :: starEach [] X.env := by rfl) : EV X (.Call (.Name "tuple" p) [a] [] pos) ⟨G, O⟩ (.d (.tupS ds)) O1 :=
  EV.mk fun bd σ H g Q k => toE (pe_callTy call_tupleS hg hm (by decide +kernel) paA (by decide) (by decide) he rfl) ((ea_cons ha ea_nil he) bd σ H g _ fun vs H1 g1 x1 ⟨v, t, e1, ok, e2⟩ => by
    have e2 : t = [] := e2
    subst e1 e2
    obtain ⟨q, ws, rfl, h1, h2⟩ := hl bd σ H1 G v g1 ok
    refine ⟨q, ws, rfl, h1, fun l o hl ho => ?_⟩
    obtain ⟨g2, x2, rp⟩ := g1.newTupS (ds := ds) hl ho h2.reps
    exact k _ _ g2 (x1.trans x2) rp)
/-- t.count(k), ints -/
theorem mt_tcount : MtR X "tuple.count" (fun x xs H Q => ∃ (q : Addr) (ns : List Int) (k : Int), x = .ref q ∧ xs = [.int k] ∧ SqT X.K H q (ns.map V.int) ∧ Q (.int (ns.count k : Nat)) H) := by
  intro pins s σ H x xs v us Q I rx rxs h
  obtain ⟨q, ns, k, rfl, rfl, hs, kq⟩ := h
  cases rx
  obtain ⟨u, rfl, ru⟩ := rxs.one
  obtain ⟨t, rfl⟩ := ru
  obtain ⟨its, rv, ⟨⟨cls, dd, data, sl⟩, ho, hc, n, hd⟩, hlen⟩ := I.tuple hs
  simp only at hc hd
  subst hc hd
  have hi := ints_of_vals rv
  refine call_meets PySem.F.slot_tuple_count ⟨_, ho, rfl⟩ PySem.F.entry_tuple_count (PySem.F.args_tuple_count_2 _ _) (SeqAt.tuple_countAt q its.toArray n dd sl (.int k t) (eqk k)) ⟨ho, fun y hy => (eqk_gives hi y (by simpa using hy)).at _ _, ?_⟩
  have ec : its.toArray.toList.countP (eqk k) = ns.count k := eqk_count hi
  refine ⟨.int (ns.count k : Nat), H, I.tok _, ⟨s.toks, ?_⟩, kq⟩
  show Value.int ((its.toArray.toList.countP (eqk k) : Nat) : Int) s.toks = _
  rw [ec]
theorem pe_bmT {name : Str} {apos cpos : Pos} {id : String} {r : V → List V → Hp → VK → Prop} {es : List Expr} (slot : Slot "tuple" name id) (hty : typeOf (.builtin id) = pure (.type "method_descriptor")) (hm : MtR X id r) {to : TE} {t : TA} (ho : PE X a to) (ha : PA X (e :: es) t)
    (hbase : attributeBase a name X.env (eval a X.env) = eval a X.env := by rfl)
    (hfew : ((backTo cpos (starEach (e :: es) X.env)).all (fun x => !x.1) && (backToKw cpos (keywordEach [] X.env)).all (fun x => x.1.isSome) && decide ((e :: es).length + ([] : List Keyword).length + (if ([] : List Keyword).isEmpty then 0 else 1) < 30)) = true := by rfl)
    (hline : (apos.endLine == cpos.line) = true := by rfl) (hs : starEach (e :: es) X.env = (false, eval e X.env) :: starEach es X.env := by rfl) (hplain : (backTo cpos (starEach es X.env)).any (·.1) = false := by rfl) :
    PE X (.Call (.Attribute a name apos) (e :: es) [] cpos) (fun σ H Q => to σ H fun x H1 => (∃ q o xs, x = .ref q ∧ H1 q = some (.frz o (.tup xs)) ∧ o.dict = none) ∧ t σ H1 fun xs H2 => r x xs H2 Q) := by
  refine ⟨fun pins s σ H Q I h => ?_⟩
  refine wpAny_Call_method_late hbase hfew hline rfl (thn (ho.run pins s σ H _ I h) fun v s1 ⟨x, H1, I1, r1, ⟨q, o, xs, ex, eq, hd⟩, q1⟩ => ?_)
  subst ex
  have ev : v = .ref q := r1
  subst ev
  obtain ⟨e1, _, its, _, ob, e2, hc, _⟩ := I1.hok q _ eq
  have eo : ob = o := by
    rw [e1] at e2
    exact (Option.some.inj e2).symm
  subst eo
  refine ⟨"tuple", id, PySem.F.plainAttrs_tuple, slot, hty, ⟨ob, e1, hc⟩, fun c ec => ?_, ?_⟩
  · cases ec
    exact ⟨ob, e1, hd⟩
  have hA := ha.run cpos pins s1 σ H1 _ I1 q1
  rw [hs] at hA ⊢
  refine Calls.callWith_builtin (by show (false || (backTo cpos (starEach es X.env)).any (·.1)) = false; rw [hplain] <;> rfl) (Calls.evalArgs_plain ?_)
  exact thn hA fun us s2 ⟨vs, H2, I2, r2, q2⟩ => hm pins s2 σ H2 _ vs _ us Q I2 r1 r2 q2
theorem reps_ints {K : PySem.W.Frag} {S : Hp} : ∀ {ns : List Int} {vs : List V}, Reps K S (ns.map .int) vs → vs = ns.map V.int
  | [], vs, h => h
  | n :: ns, _, ⟨v, r, e, h1, h2⟩ => by
    subst e
    have e1 : v = .int n := h1
    rw [reps_ints h2, e1]
    rfl
theorem ev_tcount {ns : List Int} {k : Int} {apos cpos : Pos} (ha : EV X a ⟨G, O⟩ (.d (.tupS (ns.map .int))) O1) (hb : EV X e ⟨G, O1⟩ (.d (.int k)) O2) (hbase : attributeBase a "count" X.env (eval a X.env) = eval a X.env := by rfl)
    (hfew : ((backTo cpos (starEach [e] X.env)).all (fun x => !x.1) && (backToKw cpos (keywordEach [] X.env)).all (fun x => x.1.isSome) && decide ([e].length + ([] : List Keyword).length + (if ([] : List Keyword).isEmpty then 0 else 1) < 30)) = true := by rfl)
    (hline : (apos.endLine == cpos.line) = true := by rfl) (hs : starEach [e] X.env = (false, eval e X.env) :: starEach [] X.env := by rfl) (hplain : (backTo cpos (starEach [] X.env)).any (·.1) = false := by rfl) :
    EV X (.Call (.Attribute a "count" apos) [e] [] cpos) ⟨G, O⟩ (.d (.int (ns.count k : Nat))) O2 :=
  EV.mk fun bd σ H g Q kk => toE (pe_bmT PySem.F.slot_tuple_count PySem.F.type_tuple_count mt_tcount peE paA hbase hfew hline hs hplain) (ha.use g fun v H1 g1 x1 ⟨q, vs, e1, ⟨o, h1, h2⟩, h3⟩ => by
    subst e1
    have e3 := reps_ints h3
    subst e3
    refine ⟨⟨q, o, _, rfl, stab_at h1, h2⟩, (ea_cons hb ea_nil hs) bd σ H1 g1 _ fun ws H2 g2 x2 ⟨w, t, e4, ok, e5⟩ => ?_⟩
    have e5 : t = [] := e5
    have e6 : w = .int k := ok
    subst e5 e6 e4
    have h1' := x2.at_ q (.frz o (.tup (ns.map V.int))) trivial h1
    exact ⟨q, ns, k, rfl, rfl, .inl (.inr ⟨o, stab_at h1'⟩), kk _ H2 g2 (x1.trans x2) rfl⟩)
end

/-! ### x op= e, by the class's own method -/
structure InpC (K : PySem.W.Frag) (C : Addr) (m : Str) (f : Addr) : Prop where
  cl : Cls K C
  first : PySem.W.selfFirst K C = true
  at_ : PySem.W.findIn K (.ref C) m = some (some (.ref f))
  fn : PySem.W.isFn K (.ref f) = true
structure Inp (P : Program) (w : World) (K : PySem.W.Frag) (mg : Str → Option Value) (base : Heap) (CX : CXT) (k : Nat) (C : Addr) (m : Str) (ps : List Str) (sp : Sp) : Prop where
  ex : ∃ f fd, InpC K C m f ∧ FnOk P w K mg base CX k f fd ps sp ∧ Binds K fd ps []
section
variable {X : Cx} {e : Expr} {G : List (Option En)} {O O1 Or : List OE} {x y : En} {pos : Pos} {nx : Env → Prop} {rt : En → List OE → Prop} {bk ct : Env → Prop} {ex : Addr → List (Str × D) → Env → Prop}
theorem op_inplace {op : Operator} {C f : Addr} {fd : FuncData} {k : Nat} {ps : List Str} {sp : Sp} (c : InpC X.K C (dunderI op.info.2) f) (F : FnOk X.prog X.w X.K X.mg X.base CX0 k f fd ps sp) (hr : Room k X.A) (hb : Binds X.K fd ps []) :
    OpR X (inplaceOp op) (fun x y H Q => (∃ q dx fs, x = .ref q ∧ H q = some (.ins C dx fs)) ∧ sp [x, y] H Q E0) := by
  intro pins s σ H x y v u Q I rx ry h
  obtain ⟨⟨q, dx, fs, rfl, hq⟩, hsp⟩ := h
  have ev : v = .ref q := rx
  subst ev
  obtain ⟨m, fr⟩ := I.fr
  obtain ⟨hdx, _, hne, ho, mA, hns, hl, hw⟩ := I.hok q _ hq
  obtain ⟨od, hI, _⟩ := ObjM.look (h := s.heap) (x := q) (dx := dx) (C := C) (mA := mA) ⟨ho, hns, hne⟩
  refine PySem.W.ksp_inplace fr I.ok.mod.kin hI c.first c.at_ c.fn ?_
  refine wpAny_mono (run_fn (E := E0) (us := [.ref q, u]) (vs := [.ref q, y]) F hr hb .nil pass0 I (.cons rfl (.cons ry .nil)) (by rw [List.append_nil]; exact hsp)) (fun v' s' h' => ?_) fun _ _ z => z
  obtain ⟨z, H', I', r', q'⟩ := h'
  have hn : EP X pins σ Q v' s' := ⟨z, H', I', r', q'⟩
  cases z with
  | non => cases (show v' = Value.none from r'); exact hn
  | bl b => cases (show v' = Value.bool b from r'); exact hn
  | int i => obtain ⟨t, q⟩ := (show ∃ t, v' = Value.int i t from r'); subst q; exact hn
  | str i => obtain ⟨t, q⟩ := (show ∃ t, v' = Value.str i t from r'); subst q; exact hn
  | byt i => obtain ⟨t, q⟩ := (show ∃ t, v' = Value.bytes i t from r'); subst q; exact hn
  | flt i => obtain ⟨t, q⟩ := (show ∃ t, v' = Value.float i t from r'); subst q; exact hn
  | ref i => cases (show v' = Value.ref i from r'); exact hn
  | ty i => cases (show v' = Value.type i from r'); exact hn
theorem ws_augOwn {ι : Type} {S : FSp ι} {op : Operator} {C : Addr} {k : Nat} {ps : List Str} {n : Str} {pos' : Pos} {fs : List (Str × En)} (i : Nat) (F : Inp X.prog X.w X.K X.mg X.base CX0 k C (dunderI op.info.2) ps (S.sp X.K)) (hr : Room k X.A) (hx : G[i]? = some (some x)) (h : EV X e ⟨G, O⟩ y O1) (hI : InsAt X.K O1 x C fs)
    (j : ι) (hd : S.dom j) (hs : S.args j = [x, y]) (hp : O1.Perm (S.O0 j ++ Or)) (hxp : ∀ C fs O', ¬ S.xp j C fs O') (kk : ∀ r O2, S.post j r O2 → nx ⟨G.set i (some r), O2 ++ Or⟩) (hN : X.N.Nodup) (hi : X.N[i]? = some n := by rfl) (hl : Loc X.env.scope n := by first | exact Or.inl rfl | exact Or.inr rfl)
    (hf : X.fn n = true ∨ X.env.scope.names.lookup n = some .local := by first | exact .inl rfl | exact .inr rfl) : WS X (.AugAssign (.Name n pos') op e pos) ⟨nx, rt, bk, ct, ex⟩ ⟨G, O⟩ := fun bd σ H g D c => by
  obtain ⟨f, fd, h1, h2, h3⟩ := F.ex
  refine toS (ps_aug hN hi hl peE (op_inplace h1 h2 hr h3) hf) ?_
  obtain ⟨v, e1, ok⟩ := g.slot hx
  refine ⟨v, e1, h.use g fun w H1 g1 x1 ok1 => ?_⟩
  have okx := ok.mono x1
  obtain ⟨q, dx, ws, rfl, hq, _⟩ := hI bd σ H1 G v g1 okx
  refine ⟨⟨q, dx, ws, rfl, hq⟩, j, _, hd, g1.lend (rs := S.args j) (vs := [.ref q, w]) hp (by rw [hs]; exact ⟨_, _, rfl, okx, _, _, rfl, ok1, rfl⟩), fun u H' r O2 hpost g2 => ?_, fun cls d H' C fs O2 z _ _ => hxp C fs O2 z⟩
  obtain ⟨g3, _, ok3⟩ := g1.back hp g2
  exact c.nx _ _ _ (g3.set i ok3) (kk r O2 hpost)
end
end Lx

/-! a call to which what is owned is shown as data, and which gives back a plain value. -/
namespace Lx
open PySem PySem.Spec PyProof.Rows L2

/-- while the rest Or is hidden, r (over O) reads as d -/
def AsD (K : PySem.W.Frag) (O Or : List OE) (r : En) (d : D) : Prop := ∀ bd σ H G v, Good K bd σ H ⟨G, O⟩ → EnOk K (stab bd.Oc H O) r v → Rep K (hide (bd.Oc ++ own Or) H) d v
def AsDs (K : PySem.W.Frag) (O Or : List OE) : List En → List D → Prop
  | [], [] => True
  | r :: rs, d :: ds => AsD K O Or r d ∧ AsDs K O Or rs ds
  | _, _ => False
def flat : D → Prop
  | .non => True
  | .bl _ => True
  | .int _ => True
  | .str _ => True
  | _ => False
theorem hide_subL {A B : List Addr} {H : Hp} (h : ∀ a ∈ A, a ∈ B) : Same (hide B H) (hide A H) := fun b u e => by
  by_cases hb : b ∈ B
  · rw [hide_in hb] at e
    cases e
  · rw [hide_out hb] at e
    rw [hide_out fun z => hb (h b z)]
    exact e
section
variable {K : PySem.W.Frag} {O Or : List OE}
theorem sub_own (hs : List.Subset Or O) {bd : Bd} {H : Hp} : Same (stab bd.Oc H O) (hide (bd.Oc ++ own Or) H) := hide_subL fun a ha => by
  rcases List.mem_append.mp ha with h | h
  · exact List.mem_append_left _ h
  · obtain ⟨q, hq, e⟩ := List.mem_map.mp h
    exact List.mem_append_right _ (List.mem_map.mpr ⟨q, hs hq, e⟩)
theorem asd_d {d : D} (hs : List.Subset Or O) : AsD K O Or (.d d) d := fun bd σ H G v g e => Rep.mono (Ext.of_same (sub_own hs)) e
theorem asds_d (hs : List.Subset Or O) : ∀ ds : List D, AsDs K O Or (ds.map .d) ds
  | [] => trivial
  | d :: ds => ⟨asd_d hs, asds_d hs ds⟩
theorem asds_reps {bd : Bd} {σ : L2.St} {H : Hp} {G : List (Option En)} (g : Good K bd σ H ⟨G, O⟩) : ∀ {rs : List En} {ds : List D} {vs : List V}, AsDs K O Or rs ds → EnsOk K (stab bd.Oc H O) rs vs → Reps K (hide (bd.Oc ++ own Or) H) ds vs
  | [], [], _, _, h => h
  | r :: rs, d :: ds, _, ⟨h1, h2⟩, ⟨v, t, e, k1, k2⟩ => ⟨v, t, e, h1 bd σ H G v g k1, asds_reps g h2 k2⟩
  | [], _ :: _, _, h, _ => h.elim
  | _ :: _, [], _, h, _ => h.elim
theorem not_own {Os : List OE} (hO : O.Perm (Os ++ Or)) {bd : Bd} {σ : L2.St} {H : Hp} {G : List (Option En)} (g : Good K bd σ H ⟨G, O⟩) {p : Addr} {o : OO} (hm : (p, o) ∈ Os) : p ∉ own Or := by
  have nd := ((hO.map Prod.fst).nodup_iff.mp g.nd)
  rw [List.map_append] at nd
  exact fun z => (List.nodup_append.mp nd).2.2 p (List.mem_map.mpr ⟨_, hm, rfl⟩) p z rfl
theorem asd_lst {Os : List OE} {p : Addr} {xs : List En} {ds : List D} (hO : O.Perm (Os ++ Or)) (hmo : (p, OO.lst xs) ∈ Os) (hx : AsDs K O Or xs ds) : AsD K O Or (.raw (.ref p)) (.lst ds) := fun bd σ H G v g e => by
  have e1 : v = .ref p := e
  have hm := hO.mem_iff.mpr (List.mem_append_left Or hmo)
  have hn := not_own hO g hmo
  obtain ⟨u, h1, vs, rfl, h2⟩ := g.objs _ hm
  refine ⟨p, vs, e1, ?_, asds_reps g hx h2⟩
  rw [hide_out fun z => ?_]
  · exact h1
  · rcases List.mem_append.mp z with z | z
    · exact g.dis p (List.mem_map.mpr ⟨_, hm, rfl⟩) z
    · exact hn z
def AsDF (K : PySem.W.Frag) (O Or : List OE) : List (Str × En) → List (Str × D) → Prop
  | [], [] => True
  | (n, r) :: rs, (m, d) :: ds => n = m ∧ AsD K O Or r d ∧ AsDF K O Or rs ds
  | _, _ => False
theorem asdf_d (hs : List.Subset Or O) : ∀ ds : List (Str × D), AsDF K O Or (ds.map fun q => (q.1, En.d q.2)) ds
  | [] => trivial
  | (n, d) :: ds => ⟨rfl, asd_d hs, asdf_d hs ds⟩
theorem asdf_rep {bd : Bd} {σ : L2.St} {H : Hp} {G : List (Option En)} (g : Good K bd σ H ⟨G, O⟩) : ∀ {rs : List (Str × En)} {ds : List (Str × D)} {vs : List (Str × V)}, AsDF K O Or rs ds → EnKOk K (stab bd.Oc H O) rs vs → RepF K (hide (bd.Oc ++ own Or) H) ds vs
  | [], [], _, _, h => h
  | (n, r) :: rs, (m, d) :: ds, _, ⟨h0, h1, h2⟩, ⟨v, t, e, k1, k2⟩ => by
    subst h0
    exact ⟨v, t, e, h1 bd σ H G v g k1, asdf_rep g h2 k2⟩
  | [], _ :: _, _, h, _ => h.elim
  | _ :: _, [], _, h, _ => h.elim
theorem asd_ins {Os : List OE} {p C : Addr} {fs : List (Str × En)} {ds : List (Str × D)} (hO : O.Perm (Os ++ Or)) (hmo : (p, OO.ins C fs) ∈ Os) (hx : AsDF K O Or fs ds) : AsD K O Or (.raw (.ref p)) (.ins C ds) := fun bd σ H G v g e => by
  have e1 : v = .ref p := e
  have hm := hO.mem_iff.mpr (List.mem_append_left Or hmo)
  have hn := not_own hO g hmo
  obtain ⟨u, h1, dx, vs, rfl, h2⟩ := g.objs _ hm
  refine ⟨p, dx, vs, e1, ?_, asdf_rep g hx h2⟩
  rw [hide_out fun z => ?_]
  · exact h1
  · rcases List.mem_append.mp z with z | z
    · exact g.dis p (List.mem_map.mpr ⟨_, hm, rfl⟩) z
    · exact hn z
theorem flat_rep {S S' : Hp} {d : D} {v : V} (h : flat d) (r : Rep K S d v) : Rep K S' d v := by
  cases d <;> first | exact h.elim | exact r
theorem lsx_mem {p : Addr} {xs : List En} (hm : (p, OO.lst xs) ∈ O) : LsX K O (.raw (.ref p)) xs := fun bd σ H G v g e => by
  obtain ⟨u, h1, vs, rfl, h2⟩ := g.objs _ hm
  exact ⟨p, vs, e, h1, h2⟩
theorem lsat_mem {p : Addr} {xs : List En} (hm : (p, OO.lst xs) ∈ O) : LsAt K O (.raw (.ref p)) xs := (lsx_mem hm).at
theorem insat_mem {p C : Addr} {fs : List (Str × En)} (hm : (p, OO.ins C fs) ∈ O) : InsAt K O (.raw (.ref p)) C fs := fun bd σ H G v g e => by
  obtain ⟨u, h1, dx, vs, rfl, h2⟩ := g.objs _ hm
  exact ⟨p, dx, vs, e, h1, h2⟩
/-- what is owned becomes data -/
theorem Good.pubAs {bd : Bd} {σ : L2.St} {H : Hp} {G : List (Option En)} (g : Good K bd σ H ⟨G, O⟩) (i : Nat) {r : En} {d : D} (hi : G[i]? = some (some r)) (hs : List.Sublist Or O) (h : AsD K O Or r d) : Good K bd σ H ⟨G.set i (some (.d d)), Or⟩ := by
  obtain ⟨u, e, ok⟩ := g.slot hi
  have rp : Rep K (stab bd.Oc H Or) d u := h bd σ H G u g ok
  have g3 := (g.drop hs).1.set i (x := .d d) (u := u) rp
  have e2 : σ.set i (some u) = σ := by
    refine List.ext_getElem? fun j => ?_
    by_cases hj : i = j
    · subst hj
      rw [List.getElem?_set_self (List.getElem?_eq_some_iff.mp e).1, e]
    · rw [List.getElem?_set_ne hj]
  rw [e2] at g3
  exact g3
theorem ws_pubAs {X : Cx} {G : List (Option En)} {sts : List Stmt} {nx : Env → Prop} {rt : En → List OE → Prop} {bk ct : Env → Prop} {ex : Addr → List (Str × D) → Env → Prop} (i : Nat) {r : En} {d : D} (hi : G[i]? = some (some r)) (hs : List.Sublist Or O) (h : AsD X.K O Or r d) (k : WSs X sts ⟨nx, rt, bk, ct, ex⟩ ⟨G.set i (some (.d d)), Or⟩) : WSs X sts ⟨nx, rt, bk, ct, ex⟩ ⟨G, O⟩ :=
  ws_weak (fun _ _ _ g => g.pubAs i hi hs h) k
/-- what is shown -/
theorem Good.show_ {bd : Bd} {σ : L2.St} {H : Hp} {G : List (Option En)} (g : Good K bd σ H ⟨G, O⟩) (hs : List.Subset Or O) {ds : List D} {vs : List V} (hr : Reps K (hide (bd.Oc ++ own Or) H) ds vs) : Good K ⟨bd.Oc ++ own Or, H, hide (bd.Oc ++ own Or) H⟩ (vs.map some) H ⟨(ds.map En.d).map some, []⟩ := by
  have e : stab (bd.Oc ++ own Or) H [] = hide (bd.Oc ++ own Or) H := by
    show hide ((bd.Oc ++ own Or) ++ []) H = _
    rw [List.append_nil]
  refine ⟨fun q hq => ?_, fun _ _ z => z, by show Ext _ (stab (bd.Oc ++ own Or) H []); rw [e]; exact Ext.refl _, fun q hq => (nomatch hq), List.nodup_nil, ?_, fun q hq => (nomatch hq)⟩
  · rcases List.mem_append.mp (show q ∈ bd.Oc ++ own Or from hq) with h | h
    · obtain ⟨o, z⟩ := g.ocB q h
      exact ⟨o, g.same _ _ z⟩
    · obtain ⟨y, hy, e1⟩ := List.mem_map.mp h
      subst e1
      obtain ⟨o, z, _⟩ := g.objs y (hs hy)
      exact ⟨o, z⟩
  · show Slots K (stab (bd.Oc ++ own Or) H []) _ _
    rw [e]
    exact Slots.of_ens (EnsOk.of_reps hr)
end
section
variable {X : Cx} {ι : Type} {S : FSp ι} {k : Nat} {x : Str} {ps : List Str} {p pos : Pos} {e : Expr} {es : List Expr} {G : List (Option En)} {O O1 Or : List OE} {rs : List En} {ds : List D} {d : D}
/-- f(e, ..): ds: what the arguments read as -/
theorem ev_callS (F : Fn X.prog X.w X.K X.mg X.base CX0 k x ps (S.sp X.K)) (hr : Room k X.A) (i : ι) (hi : S.dom i) (ha : EA X (e :: es) ⟨G, O⟩ rs O1) (hs : List.Subset Or O1) (hd : AsDs X.K O1 Or rs ds) (hargs : S.args i = ds.map .d) (h0 : S.O0 i = []) (hpost : ∀ r' O', S.post i r' O' → r' = .d d ∧ O' = []) (hf : flat d)
    (hx : ∀ C fs O', ¬ S.xp i C fs O' := by intro _ _ _ h; exact h) (hg : Gl X x := by rfl) (hdb : (x == ("__debug__" : Str)) = false := by decide) (he : starEach (e :: es) X.env = (false, eval e X.env) :: starEach es X.env := by rfl) (hpl : (backTo pos (starEach es X.env)).any (·.1) = false := by rfl) :
    EV X (.Call (.Name x p) (e :: es) [] pos) ⟨G, O⟩ (.d d) O1 := by
  obtain ⟨f, fd, h1, h2, h3, h4⟩ := F.ex
  refine EV.mk fun bd σ H g Q q => toE (pe_call (dvs := []) h2 hr hg h1 h3 h4 .nil pass0 paA hdb he hpl) (ha bd σ H g _ fun vs H1 g1 x1 ok => ?_)
  rw [List.append_nil]
  have sh := g1.show_ hs (asds_reps g1 hd ok)
  refine ⟨i, _, hi, by rw [hargs, h0]; exact sh, fun v H' r O2 hp g2 => ?_, fun cls dd H' C fs O2 z _ _ => hx C fs O2 z⟩
  obtain ⟨e1, e2⟩ := hpost r O2 hp
  subst e1 e2
  obtain ⟨u, eu, oku⟩ := g2.slot (i := 0) rfl
  have eu : v = u := by
    injection eu with eu
    injection eu
  subst eu
  have sm : Same H1 H' := g2.same
  exact q v H' (g1.grow sm) (x1.trans (Ext.of_same (hide_mono sm))) (flat_rep hf oku)
end
section
variable {X : Cx} {G : List (Option En)} {O O1 : List OE} {nx : Env → Prop} {rt : En → List OE → Prop} {bk ct : Env → Prop} {ex : Addr → List (Str × D) → Env → Prop} {t : Expr} {a b : List Stmt} {pos : Pos}
theorem ws_ifT {c : Bool} (h : ET X t ⟨G, O⟩ c O1) (ha : WSs X a ⟨nx, rt, bk, ct, ex⟩ ⟨G, O1⟩) (hc : c = true := by rfl) : WS X (.If t a b pos) ⟨nx, rt, bk, ct, ex⟩ ⟨G, O⟩ := ws_if h (fun _ => ha) fun z => by rw [hc] at z; cases z
theorem ws_ifF {c : Bool} (h : ET X t ⟨G, O⟩ c O1) (hb : WSs X b ⟨nx, rt, bk, ct, ex⟩ ⟨G, O1⟩) (hc : c = false := by rfl) : WS X (.If t a b pos) ⟨nx, rt, bk, ct, ex⟩ ⟨G, O⟩ := ws_if h (fun z => by rw [hc] at z; cases z) fun _ => hb
end
theorem iw_rangeN {X : Cx} {tg e : Expr} {G : List (Option En)} {O O1 : List OE} {pos p : Pos} {n : Nat} (hm : X.mg "range" = none) (h : EV X e ⟨G, O⟩ (.d (.int (n : Nat))) O1) (hb : n < 2 ^ 62) (hg : Gl X "range" := by rfl) (hs : starEach [e] X.env = [(false, eval e X.env)] := by rfl) :
    IW X tg (.Call (.Name "range" p) [e] [] pos) ⟨G, O⟩ n (fun k => .d (.int k)) O1 (fun _ => True) := by
  have q := iw_range (X := X) (tg := tg) (p := p) (pos := pos) hm h (by omega) (by omega) hg hs
  rw [Int.toNat_natCast] at q
  exact q
theorem ev_catTA {X : Cx} {a b : Expr} {G : List (Option En)} {O O1 O2 : List OE} {pos : Pos} {ds es : List D} (ha : EV X a ⟨G, O⟩ (.d (.tup ds)) O1) (hb : EV X b ⟨G, O1⟩ (.d (.tup es)) O2) (hl : ds.length + es.length ≤ sizeLine) : EV X (.BinOp a .Add b pos) ⟨G, O⟩ (.d (.tup (ds ++ es))) O2 :=
  EV.mk fun bd σ H g Q k => toE (pe_op op_catA peE peE) (ha.use g fun v H1 g1 x1 ok1 => hb.use g1 fun w H2 g2 x2 ⟨q, ws, e2, h3, h4⟩ => by
    obtain ⟨p, vs, e1, h1, h2⟩ := ok1.mono x2
    refine ⟨p, q, vs, ws, e1, e2, h1.up, h3.up, by rw [h2.length, h4.length]; exact hl, fun z => ?_, fun _ z => ?_, fun _ _ r hr => ?_⟩
    · have : ds = [] := by have := h2.length; rw [z] at this; exact List.length_eq_zero_iff.mp this.symm
      subst this
      exact k _ H2 g2 (x1.trans x2) ⟨q, ws, rfl, h3, h4⟩
    · have : es = [] := by have := h4.length; rw [z] at this; exact List.length_eq_zero_iff.mp this.symm
      subst this
      exact k _ H2 g2 (x1.trans x2) ⟨p, vs, rfl, h1, by rw [List.append_nil]; exact h2⟩
    · obtain ⟨g3, x3, rp⟩ := g2.newTup (ds := ds ++ es) hr (h2.append h4)
      exact k _ _ g3 ((x1.trans x2).trans x3) rp)
/-! ### the scopes of a def's comprehensions, in the order of the text -/
def exSc : Nat → Expr → List Scope
  | 0, _ => []
  | n + 1, .ListComp elt gens sc _ => sc :: (exSc n elt ++ gens.flatMap fun g => exSc n g.iter ++ g.ifs.flatMap (exSc n))
  | n + 1, .SetComp elt gens sc _ => sc :: (exSc n elt ++ gens.flatMap fun g => exSc n g.iter ++ g.ifs.flatMap (exSc n))
  | n + 1, .GeneratorExp elt gens sc _ => sc :: (exSc n elt ++ gens.flatMap fun g => exSc n g.iter ++ g.ifs.flatMap (exSc n))
  | n + 1, .DictComp k v gens sc _ => sc :: (exSc n k ++ exSc n v ++ gens.flatMap fun g => exSc n g.iter ++ g.ifs.flatMap (exSc n))
  | n + 1, .Call f args _ _ => exSc n f ++ args.flatMap (exSc n)
  | n + 1, .BinOp a _ b _ => exSc n a ++ exSc n b
  | n + 1, .UnaryOp _ a _ => exSc n a
  | n + 1, .BoolOp _ xs _ => xs.flatMap (exSc n)
  | n + 1, .Compare a _ xs _ => exSc n a ++ xs.flatMap (exSc n)
  | n + 1, .IfExp t a b _ => exSc n t ++ exSc n a ++ exSc n b
  | n + 1, .List xs _ => xs.flatMap (exSc n)
  | n + 1, .Tuple xs _ _ => xs.flatMap (exSc n)
  | n + 1, .Attribute a _ _ => exSc n a
  | n + 1, .Subscript a b _ => exSc n a ++ exSc n b
  | n + 1, .Starred a _ => exSc n a
  | n + 1, .Yield (some a) _ => exSc n a
  | n + 1, .YieldFrom a _ => exSc n a
  | n + 1, .JoinedStr xs _ => xs.flatMap (exSc n)
  | n + 1, .FormattedValue a _ _ _ => exSc n a
  | _ + 1, _ => []
def stSc : Nat → Stmt → List Scope
  | 0, _ => []
  | n + 1, .Assign _ e _ => exSc n e
  | n + 1, .AugAssign _ _ e _ => exSc n e
  | n + 1, .Expr e _ => exSc n e
  | n + 1, .Return (some e) _ => exSc n e
  | n + 1, .If t a b _ => exSc n t ++ a.flatMap (stSc n) ++ b.flatMap (stSc n)
  | n + 1, .While t a b _ => exSc n t ++ a.flatMap (stSc n) ++ b.flatMap (stSc n)
  | n + 1, .For _ e a b _ => exSc n e ++ a.flatMap (stSc n) ++ b.flatMap (stSc n)
  | n + 1, .Raise (some e) _ _ => exSc n e
  | n + 1, .Try a h b c _ => a.flatMap (stSc n) ++ b.flatMap (stSc n) ++ c.flatMap (stSc n)
  | _ + 1, _ => []
def cmpSc (st : Stmt) (i : Nat) : Scope := ((defBody st).flatMap (stSc 30)).getD i (defScope st)
end Lx

/-! the head's facts: names, defs, and a question of one's own. -/
namespace Lx
open PySem PySem.Spec PyProof.Rows L2
abbrev AlE : Type := He.AlD × Bool
def obsE2 (n : Nat) (fa : List He.Fa) (fn : List He.DefD) (ex : PySem.W.Frag → Bool) (g : Addr → Option Obj) : AlE := (He.obsD fa fn (He.frG g (He.asD g n)), ex (He.frG g (He.asD g n)))
def Says (fa : List He.Fa) (fn : List He.DefD) (ex : PySem.W.Frag → Bool) (K : PySem.W.Frag) : Prop := He.SaysD fa fn K ∧ ex K = true
def hookE2 (n : Nat) (fa : List He.Fa) (fn : List He.DefD) (ex : PySem.W.Frag → Bool) : PySem.W.Hook where
  α := AlE
  obs := fun s => obsE2 n fa fn ex s.heap.get?
  val := fun _ => (He.valD fn, true)
  says := fun _ h => ∃ K : PySem.W.Frag, K.In h ∧ Says fa fn ex K
  of := fun _ s e => ⟨He.frG s.heap.get? (He.asD s.heap.get? n), He.frG_in, congrArg (fun z : AlE => z.1) e, congrArg (fun z : AlE => z.2) e⟩
  keeps := fun _ _ _ ⟨K, hK, c⟩ k => ⟨K, PySem.W.Frag.In.keeps hK k, c⟩
theorem obsE2_eq {n : Nat} {fa : List He.Fa} {fn : List He.DefD} {ex : PySem.W.Frag → Bool} {g : Addr → Option Obj} {s : Shared} (h : ∀ a, g a = s.heap.get? a) : obsE2 n fa fn ex g = (hookE2 n fa fn ex).obs s := by
  have e : g = s.heap.get? := funext h
  rw [e]
  rfl
/-- a def of the module, as a datum -/
abbrev mdef (x : Str) (st : Stmt) : He.DefD := ⟨(x, none), x, x, defArgs st, defBody st, defScope st, [], []⟩
abbrev cdef (C m q : Str) (st : Stmt) : He.DefD := ⟨(C, some m), m, q, defArgs st, defBody st, defScope st, [], []⟩
def isiB (K : PySem.W.Frag) (C : Addr) : Bool := He.eqO (PySem.W.findIn K (.ref C) "__class__") (some (some (.builtin "object.__class__"))) && (He.eqO (PySem.W.specialIn K (.builtin "object.__class__") "__get__") (some (some (.builtin "getset_descriptor.__get__"))) &&
  (decide (PySem.W.takesIn K (.builtin "object.__class__") = some true) && decide (PySem.W.mroIn K C (.type "object") = some true)))
theorem isiB_ok {K : PySem.W.Frag} {C : Addr} (c : Cls K C) (h : isiB K C = true) : IsiC K C := by
  obtain ⟨h1, h⟩ := He.ba h
  obtain ⟨h2, h⟩ := He.ba h
  obtain ⟨h3, h4⟩ := He.ba h
  exact ⟨c, He.eqO_ok h1, He.eqO_ok h2, of_decide_eq_true h3, of_decide_eq_true h4⟩
def oneB (K : PySem.W.Frag) (C D : Addr) (b : Bool) : Bool := decide (PySem.W.kitOne K (.ref C) (.ref D) = some b)
theorem oneB_ok {K : PySem.W.Frag} {C D : Addr} {b : Bool} (h : oneB K C D b = true) : PySem.W.kitOne K (.ref C) (.ref D) = some b := of_decide_eq_true h
def inpB (K : PySem.W.Frag) (C : Addr) (m : Str) : Bool := PySem.W.selfFirst K C && (He.eqO (PySem.W.findIn K (.ref C) m) (some (some (.ref (He.ma K C m)))) && PySem.W.isFn K (.ref (He.ma K C m)))
theorem inpB_ok {K : PySem.W.Frag} {C : Addr} {m : Str} (c : Cls K C) (h : inpB K C m = true) : InpC K C m (He.ma K C m) := by
  obtain ⟨h1, h⟩ := He.ba h
  obtain ⟨h2, h3⟩ := He.ba h
  exact ⟨c, h1, He.eqO_ok h2, h3⟩
theorem reps_of_ints {K : PySem.W.Frag} {S : Hp} : ∀ ns : List Int, Reps K S (ns.map .int) (ns.map V.int)
  | [] => rfl
  | n :: ns => ⟨.int n, ns.map V.int, rfl, rfl, reps_of_ints ns⟩
/-- the script at the law's call -/
theorem good_script {K : PySem.W.Frag} {H : Hp} {a : Addr} {ns : List Int} (h : SqL K H a (ns.map V.int)) : Good K ⟨[], H, H⟩ ([V.ref a].map some) H ⟨([.d (.lstF (ns.map .int))] : List En).map some, []⟩ := by
  have e : stab [] H [] = H := by
    funext b
    exact hide_out (by simp)
  refine ⟨fun q hq => (nomatch hq), fun _ _ z => z, by show Ext H (stab [] H []); rw [e]; exact Ext.refl _, fun q hq => (nomatch hq), List.nodup_nil, ?_, fun q hq => (nomatch hq)⟩
  show Slots K (stab [] H []) _ _
  rw [e]
  exact Slots.of_ens ⟨.ref a, [], rfl, ⟨a, _, rfl, h, reps_of_ints ns⟩, rfl⟩
end Lx

namespace TT
open PySem PySem.Spec PyProof.Rows L2 Lx
def top (i : Nat) : Stmt := PySem.Challenge.pw_elseput_k45_whole_interleavings.main.body.getD i (.Pass ⟨0, 0, 0, 0⟩)
abbrev FnT (K : PySem.W.Frag) (x : Str) (st : Stmt) (f : Addr) (fd : FuncData) : Prop := FunD K x x (defArgs st) (defBody st) (defScope st) [] [] f fd
/-- what the module has under these names -/
structure Facts (mg : Str → Option Value) : Prop where
  len : mg "len" = none
  list : mg "list" = none
  int : mg "int" = none
  range : mg "range" = none
  min : mg "min" = none
  sum : mg "sum" = none
  tuple : mg "tuple" = none
  isi : mg "isinstance" = none
  enum : mg "enumerate" = none
  str : mg "str" = none
  bool : mg "bool" = none
  dict : mg "dict" = none

/-! ### the drawn numbers -/
structure DS where
  sc : List Int
  ps : Nat
  vl : Int
  kd : Int
  ct : Int
def iD (n : Int) : En := .d (.int n)
abbrev sD (xs : List Int) : D := .lst (xs.map .int)
def draw2 (s : DS) (m : Int) : Int × DS :=
  let c := s.ct + 1
  if s.kd = 1 then (s.vl % m, { s with ct := c, vl := s.vl / m, kd := if s.vl / m = 0 ∨ c ≥ 60 then 0 else s.kd })
  else
    let a := (s.vl * 48271 + c * 69621) % 2147483647
    let b := (a * a + c * 40692 + 3) % 2147483399
    (((b * 16807 + a) % 2147483029) % m, { s with ct := c, kd := if c ≥ 8 then 0 else s.kd })
def draw (s : DS) (m : Int) : Int × DS :=
  if s.kd = 0 then
    if s.sc.length ≤ s.ps then (0, s) else draw2 { s with vl := s.sc.getD s.ps 0, ps := s.ps + 1, ct := 0, kd := if s.sc.getD s.ps 0 < 1000000000000000000 then 2 else 1 } m
  else draw2 s m
abbrev DS.o (s : DS) : OO := .lst [.d (sD s.sc), .d (.int s.ps), .d (.int s.vl), .d (.int s.kd), .d (.int s.ct)]
theorem draw2_lo {s : DS} {m : Int} (h : 0 < m) : 0 ≤ (draw2 s m).1 ∧ (draw2 s m).1 < m := by
  unfold draw2
  dsimp only
  split
  · exact ⟨Int.emod_nonneg _ (by omega), Int.emod_lt_of_pos _ h⟩
  · exact ⟨Int.emod_nonneg _ (by omega), Int.emod_lt_of_pos _ h⟩
theorem draw_lo {s : DS} {m : Int} (h : 0 < m) : 0 ≤ (draw s m).1 ∧ (draw s m).1 < m := by
  unfold draw
  split
  · split
    · exact ⟨Int.le_refl _, h⟩
    · exact draw2_lo h
  · exact draw2_lo h
def st0 (xs : List Int) : DS := ⟨xs, 0, 0, 0, 0⟩
abbrev sState : Stmt := top 26
abbrev sDraw : Stmt := top 27
def nDraw : List Str := ((defScope sDraw).names.filter fun q => q.2 == .local).map (·.1)
def pDraw : List Str := nDraw.take 2
theorem scState : FnScope ["_law_script"] ["_law_script"] (defScope sState) := ⟨rfl, rfl, rfl, by decide +kernel, rfl, by decide +kernel, by decide +kernel⟩
theorem scDraw : FnScope nDraw pDraw (defScope sDraw) := ⟨rfl, rfl, rfl, by decide +kernel, rfl, by decide +kernel, by decide +kernel⟩
def spState : FSp (List Int) where
  dom := fun xs => True
  args := fun xs => [.d (.lstF (xs.map .int))]
  O0 := fun _ => []
  post := fun xs r O' => ∃ q, r = .raw (.ref q) ∧ O' = [(q, (st0 xs).o)]
def spDraw : FSp (Addr × DS × Int) where
  dom := fun i => 0 < i.2.2 ∧ i.2.2 < 1073741824
  args := fun i => [.raw (.ref i.1), .d (.int i.2.2)]
  O0 := fun i => [(i.1, i.2.1.o)]
  post := fun i r O' => r = .d (.int (draw i.2.1 i.2.2).1) ∧ O' = [(i.1, (draw i.2.1 i.2.2).2.o)]
section
variable {P : Program} {w : World} {K : PySem.W.Frag} {mg : Str → Option Value} {base : Heap} {f : Addr} {fd : FuncData}
theorem ok_state (F : FnT K "_law_state" sState f fd) (T : Facts mg) : FnOk P w K mg base CX0 1 f fd ["_law_script"] (spState.sp K) := by
  refine fn_ok0 F scState (fun _ _ => rfl) fun cdv A outer s H EX hr xs _ => ?_
  refine ws_cons (ws_retN (en_lst (ea_cons (EN.lst (ds := xs.map .int) (en_list T.list (ev_name 0) lsat_F)) (ea_cons ev_int (ea_cons ev_int (ea_cons ev_int (ea_cons ev_int ea_nil)))))) fun q => ?_)
  exact ⟨q, rfl, rfl⟩
theorem getI {xs : List Int} {k : Nat} (h : k < xs.length) : atI ((xs.map D.int).map En.d) (k : Int) = some (.d (.int (xs.getD k 0))) := by
  refine atI_nat ?_
  rw [List.getElem?_map, List.getElem?_map, List.getElem?_eq_getElem h, List.getD_eq_getElem?_getD, List.getElem?_eq_getElem h]
  rfl
theorem ok_draw (F : FnT K "_law_draw" sDraw f fd) (T : Facts mg) : FnOk P w K mg base CX0 1 f fd pDraw (spDraw.sp K) := by
  refine fn_ok0 F scDraw (fun _ _ => rfl) fun cdv A outer s H EX hr i hdom => ?_
  obtain ⟨q, ⟨sc, ps, vl, kd, ct⟩, m⟩ := i
  obtain ⟨hm0, hm1⟩ : 0 < m ∧ m < 1073741824 := hdom
  have rest : ∀ (ps : Nat) (vl kd ct : Int), (kd = 1 ∨ ¬ kd = 1) → WSs (cxOf CX0 P w K mg base nDraw "_law_draw" (defScope sDraw) f cdv A outer s H EX).nox (List.drop 1 (defBody sDraw))
      { nx := fun E => (En.d .non = .d (.int (draw2 ⟨sc, ps, vl, kd, ct⟩ m).1) ∧ E.O = [(q, (draw2 ⟨sc, ps, vl, kd, ct⟩ m).2.o)]), rt := fun r O' => r = .d (.int (draw2 ⟨sc, ps, vl, kd, ct⟩ m).1) ∧ O' = [(q, (draw2 ⟨sc, ps, vl, kd, ct⟩ m).2.o)] }
      ⟨[some (.raw (.ref q)), some (.d (.int m)), none, none, none, none], [(q, .lst [.d (sD sc), .d (.int ps), .d (.int vl), .d (.int kd), .d (.int ct)])]⟩ := by
    intro ps vl kd ct hk
    refine ws_cons (ws_setitem (n := 4) 0 (ev_add (ev_ixL (ev_name 0) ev_int (lsat_own 0) rfl) ev_int) (ev_name 0) ev_int rfl rfl ?_)
    refine ws_cons (ws_if (et_eqI (ev_ixL (ev_name 0) ev_int (lsat_own 0) rfl) ev_int) (fun h => ?_) fun h => ws_nil ?_)
    · have hk1 : kd = 1 := by simpa only [decide_eq_true_eq] using h
      refine ws_cons (ws_set 2 (ev_mod (ev_intI T.int (ev_ixL (ev_name 0) ev_int (lsat_own 0) rfl)) (ev_name 1) hm0) ?_ scDraw.nd)
      refine ws_cons (ws_setitem (n := 2) 0 (ev_fdiv (ev_intI T.int (ev_ixL (ev_name 0) ev_int (lsat_own 0) rfl)) (ev_name 1) ⟨hm0, hm1⟩) (ev_name 0) ev_int rfl rfl ?_)
      have er : (draw2 ⟨sc, ps, vl, kd, ct⟩ m) = (vl % m, ⟨sc, ps, vl / m, if vl / m = 0 ∨ ct + 1 ≥ 60 then 0 else kd, ct + 1⟩) := by
        unfold draw2
        dsimp only
        rw [if_pos hk1]
      rw [er]
      refine ws_cons (ws_if (et_or (et_eqI (ev_ixL (ev_name 0) ev_int (lsat_own 0) rfl) ev_int) (fun _ => et_ge (ev_ixL (ev_name 0) ev_int (lsat_own 0) rfl) ev_int) (fun _ => rfl)) (fun h => ?_) fun h => ws_nil ?_)
      · refine ws_cons (ws_setitem (n := 3) 0 ev_int (ev_name 0) ev_int rfl rfl (ws_nil ?_))
        refine ws_cons (ws_ret (ev_name 2) ⟨rfl, ?_⟩)
        have hc : vl / m = 0 ∨ ct + 1 ≥ 60 := by simpa only [Bool.or_eq_true, decide_eq_true_eq] using h
        rw [if_pos hc]
        rfl
      · refine ws_cons (ws_ret (ev_name 2) ⟨rfl, ?_⟩)
        have hc : ¬ (vl / m = 0 ∨ ct + 1 ≥ 60) := by
          simp only [Bool.or_eq_false_iff, decide_eq_false_iff_not] at h
          omega
        rw [if_neg hc]
        rfl
    · have hk1 : ¬ kd = 1 := by simpa only [decide_eq_false_iff_not] using h
      have er : (draw2 ⟨sc, ps, vl, kd, ct⟩ m) = ((((((vl * 48271 + (ct + 1) * 69621) % 2147483647) * ((vl * 48271 + (ct + 1) * 69621) % 2147483647) + (ct + 1) * 40692 + 3) % 2147483399 * 16807 + (vl * 48271 + (ct + 1) * 69621) % 2147483647) % 2147483029) % m, ⟨sc, ps, vl, if ct + 1 ≥ 8 then 0 else kd, ct + 1⟩) := by
        unfold draw2
        dsimp only
        rw [if_neg hk1]
      rw [er]
      have l1 := Int.emod_nonneg (vl * 48271 + (ct + 1) * 69621) (b := 2147483647) (by decide)
      have l2 := Int.emod_lt_of_pos (vl * 48271 + (ct + 1) * 69621) (b := 2147483647) (by decide)
      refine ws_cons (ws_set 3 (ev_mod (ev_intI T.int (ev_add (ev_mul (ev_ixL (ev_name 0) ev_int (lsat_own 0) rfl) ev_int (.inr (by decide))) (ev_mul (ev_ixL (ev_name 0) ev_int (lsat_own 0) rfl) ev_int (.inr (by decide))))) ev_int (by decide)) ?_ scDraw.nd)
      refine ws_cons (ws_set 4 (ev_mod (ev_intI T.int (ev_add (ev_add (ev_mul (ev_name 3) (ev_name 3) (.inl (by constructor <;> omega))) (ev_mul (ev_ixL (ev_name 0) ev_int (lsat_own 0) rfl) ev_int (.inr (by decide)))) ev_int)) ev_int (by decide)) ?_ scDraw.nd)
      have fin : ∀ k1, WSs (cxOf CX0 P w K mg base nDraw "_law_draw" (defScope sDraw) f cdv A outer s H EX).nox (List.drop 6 (defBody sDraw))
        { nx := fun E => (En.d .non = .d (.int ((((((vl * 48271 + (ct + 1) * 69621) % 2147483647) * ((vl * 48271 + (ct + 1) * 69621) % 2147483647) + (ct + 1) * 40692 + 3) % 2147483399 * 16807 + (vl * 48271 + (ct + 1) * 69621) % 2147483647) % 2147483029) % m)) ∧ E.O = [(q, DS.o ⟨sc, ps, vl, k1, ct + 1⟩)]),
          rt := fun r O' => r = .d (.int ((((((vl * 48271 + (ct + 1) * 69621) % 2147483647) * ((vl * 48271 + (ct + 1) * 69621) % 2147483647) + (ct + 1) * 40692 + 3) % 2147483399 * 16807 + (vl * 48271 + (ct + 1) * 69621) % 2147483647) % 2147483029) % m)) ∧ O' = [(q, DS.o ⟨sc, ps, vl, k1, ct + 1⟩)] }
        ⟨[some (.raw (.ref q)), some (.d (.int m)), none, some (.d (.int ((vl * 48271 + (ct + 1) * 69621) % 2147483647))), some (.d (.int ((((vl * 48271 + (ct + 1) * 69621) % 2147483647) * ((vl * 48271 + (ct + 1) * 69621) % 2147483647) + (ct + 1) * 40692 + 3) % 2147483399))), none], [(q, .lst [.d (sD sc), .d (.int ps), .d (.int vl), .d (.int k1), .d (.int (ct + 1))])]⟩ := by
        intro k1
        refine ws_cons (ws_set 5 (ev_mod (ev_intI T.int (ev_add (ev_mul (ev_name 4) ev_int (.inr (by decide))) (ev_name 3))) ev_int (by decide)) ?_ scDraw.nd)
        exact ws_cons (ws_ret (ev_mod (ev_intI T.int (ev_name 5)) (ev_name 1) hm0) ⟨rfl, rfl⟩)
      refine ws_cons (ws_if (et_ge (ev_ixL (ev_name 0) ev_int (lsat_own 0) rfl) ev_int) (fun h => ?_) fun h => ws_nil ?_)
      · refine ws_cons (ws_setitem (n := 3) 0 ev_int (ev_name 0) ev_int rfl rfl (ws_nil ?_))
        have hc : ct + 1 ≥ 8 := by simpa only [decide_eq_true_eq] using h
        rw [if_pos hc]
        exact fin 0
      · have hc : ¬ ct + 1 ≥ 8 := by simpa only [decide_eq_false_iff_not] using h
        rw [if_neg hc]
        exact fin kd
  refine ws_cons (ws_if (et_eqI (ev_ixL (ev_name 0) ev_int (lsat_own 0) rfl) ev_int) (fun h => ?_) fun h => ws_nil ?_)
  · have h0 : kd = 0 := by simpa only [decide_eq_true_eq] using h
    subst h0
    refine ws_cons (ws_if (et_ge (ev_ixL (ev_name 0) ev_int (lsat_own 0) rfl) (ev_lenL T.len (ev_ixL (ev_name 0) ev_int (lsat_own 0) rfl) lsat_d)) (fun h => ?_) fun h => ws_nil ?_)
    · have h1 : sc.length ≤ ps := by
        simp only [decide_eq_true_eq, List.length_map] at h
        omega
      refine ws_cons (ws_ret ev_int ?_)
      show En.d (.int 0) = _ ∧ _ = _
      have er : draw ⟨sc, ps, vl, 0, ct⟩ m = (0, ⟨sc, ps, vl, 0, ct⟩) := by
        unfold draw
        dsimp only
        rw [if_pos rfl, if_pos h1]
      dsimp only
      rw [er]
      exact ⟨rfl, rfl⟩
    · have h1 : ps < sc.length := by
        simp only [decide_eq_false_iff_not, List.length_map] at h
        omega
      have er : draw ⟨sc, ps, vl, 0, ct⟩ m = draw2 ⟨sc, ps + 1, sc.getD ps 0, if sc.getD ps 0 < 1000000000000000000 then 2 else 1, 0⟩ m := by
        unfold draw
        dsimp only
        rw [if_pos rfl, if_neg (by omega)]
      dsimp only [spDraw]
      rw [er]
      refine ws_cons (ws_setitem (n := 2) 0 (ev_intI T.int (ev_ixL (ev_ixL (ev_name 0) ev_int (lsat_own 0) rfl) (ev_ixL (ev_name 0) ev_int (lsat_own 0) rfl) lsat_d (getI h1))) (ev_name 0) ev_int rfl rfl ?_)
      refine ws_cons (ws_setitem (n := 1) 0 (ev_add (ev_ixL (ev_name 0) ev_int (lsat_own 0) rfl) ev_int) (ev_name 0) ev_int rfl rfl ?_)
      refine ws_cons (ws_setitem (n := 3) 0 ev_int (ev_name 0) ev_int rfl rfl ?_)
      refine ws_cons (ws_setitem (n := 4) 0 ev_int (ev_name 0) ev_int rfl rfl ?_)
      refine ws_cons (ws_if (et_lt (ev_ixL (ev_name 0) ev_int (lsat_own 0) rfl) (ev_pow ev_int ev_int ⟨by decide, by decide, by decide⟩)) (fun h => ?_) fun h => ws_nil (ws_nil ?_))
      · refine ws_cons (ws_setitem (n := 3) 0 ev_int (ev_name 0) ev_int rfl rfl (ws_nil (ws_nil ?_)))
        have hc : sc.getD ps 0 < 1000000000000000000 := by
          have e18 : (10 : Int) ^ Int.toNat 18 = 1000000000000000000 := by decide
          rw [e18] at h
          simpa only [decide_eq_true_eq] using h
        rw [if_pos hc]
        exact rest (ps + 1) (sc.getD ps 0) 2 0 (.inr (by decide))
      · have hc : ¬ sc.getD ps 0 < 1000000000000000000 := by
          have e18 : (10 : Int) ^ Int.toNat 18 = 1000000000000000000 := by decide
          rw [e18] at h
          simpa only [decide_eq_false_iff_not] using h
        rw [if_neg hc]
        exact rest (ps + 1) (sc.getD ps 0) 1 0 (.inl rfl)
  · have h0 : ¬ kd = 0 := by simpa only [decide_eq_false_iff_not] using h
    have er : draw ⟨sc, ps, vl, kd, ct⟩ m = draw2 ⟨sc, ps, vl, kd, ct⟩ m := by
      unfold draw
      dsimp only
      rw [if_neg h0]
    dsimp only [spDraw]
    rw [er]
    exact rest ps vl kd ct (Decidable.em _)
end
/-! ### a draw, in numbers -/
def drawN (s : DS) (m : Nat) : Nat × DS := ((draw s m).1.toNat, (draw s m).2)
theorem drawN_eq {s : DS} {m : Nat} (h : 0 < m) : (draw s m).1 = (((drawN s m).1 : Nat) : Int) := by
  have := (draw_lo (s := s) (m := (m : Int)) (by omega)).1
  show _ = (((draw s m).1.toNat : Nat) : Int)
  omega
theorem drawN_lt {s : DS} {m : Nat} (h : 0 < m) : (drawN s m).1 < m := by
  have h1 := draw_lo (s := s) (m := (m : Int)) (by omega)
  show (draw s m).1.toNat < m
  omega
theorem fn_draw {P : Program} {w : World} {K : PySem.W.Frag} {mg : Str → Option Value} {base : Heap} {f : Addr} {fd : FuncData} (F : FnT K "_law_draw" sDraw f fd) (T : Facts mg) (hm : mg "_law_draw" = some (.ref f)) : Fn P w K mg base CX0 1 "_law_draw" pDraw (spDraw.sp K) := Fn.mk0 F hm (ok_draw F T) fun _ _ _ _ _ _ us h => by
  match us, h with
  | [a, b], _ => rfl
theorem fn_state {P : Program} {w : World} {K : PySem.W.Frag} {mg : Str → Option Value} {base : Heap} {f : Addr} {fd : FuncData} (F : FnT K "_law_state" sState f fd) (T : Facts mg) (hm : mg "_law_state" = some (.ref f)) : Fn P w K mg base CX0 1 "_law_state" ["_law_script"] (spState.sp K) := Fn.mk0 F hm (ok_state F T) fun _ _ _ _ _ _ us h => by
  match us, h with
  | [a], _ => rfl
theorem ev_drawN {X : Cx} {k : Nat} {e : Expr} {es : List Expr} {G : List (Option En)} {O Or : List OE} {q : Addr} {s : DS} {m : Nat} {p pos : Pos} (Fd : Fn X.prog X.w X.K X.mg X.base CX0 1 "_law_draw" pDraw (spDraw.sp X.K)) (hr : Room k X.A) (ha : EA X (e :: es) ⟨G, O⟩ [.raw (.ref q), .d (.int (m : Nat))] ((q, s.o) :: Or)) (hk : 1 ≤ k) (hm : 0 < m) (hm2 : m < 1073741824) (hg : Gl X "_law_draw" := by rfl)
    (he : starEach (e :: es) X.env = (false, eval e X.env) :: starEach es X.env := by rfl) (hpl : (backTo pos (starEach es X.env)).any (·.1) = false := by rfl) : EV X (.Call (.Name "_law_draw" p) (e :: es) [] pos) ⟨G, O⟩ (.d (.int ((drawN s m).1 : Nat))) ((q, (drawN s m).2.o) :: Or) := by
  have h := ev_call (p := p) (Or := Or) Fd (hr.mono hk) (q, s, (m : Int)) (show 0 < (m : Int) ∧ (m : Int) < 1073741824 from ⟨by omega, by omega⟩) ha (List.Perm.refl _) (r := .d (.int (draw s m).1)) (O2 := [(q, (draw s m).2.o)]) (fun _ _ z => z) (fun _ _ _ z => z) hg (by decide) he hpl
  rw [drawN_eq hm] at h
  exact h
end TT

/-! k45: the program's part. -/
namespace TT
open PySem PySem.Spec PyProof.Rows L2 Lx
abbrev sF : Stmt := top 2
theorem scF : FnScope ["places", "at", "other", "result"] ["places"] (defScope sF) := ⟨rfl, rfl, rfl, by decide +kernel, rfl, by decide +kernel, by decide +kernel⟩

/-! ### following, as a function -/
def fAt (xs : List Nat) : Nat → Option Nat
  | 0 => none
  | k + 1 => if xs.getD (k + 1) 0 ≤ xs.getD k 0 then fAt xs k else some k
def fOther (xs : List Nat) (v : Nat) : Nat → Nat
  | 0 => 0
  | j + 1 => if xs.getD (j + 1) 0 ≤ v then fOther xs v j else j + 1
def foll (xs : List Nat) : Option (List Nat) := match fAt xs (xs.length - 1) with
  | none => none
  | some a =>
    let o := fOther xs (xs.getD a 0) (xs.length - 1)
    let r := (xs.set a (xs.getD o 0)).set o (xs.getD a 0)
    some (r.take (a + 1) ++ (r.drop (a + 1)).reverse)
def dN (n : Nat) : D := .int n
def dL (xs : List Nat) : D := .lst (xs.map dN)
theorem fAt_some {xs : List Nat} : ∀ {k a : Nat}, fAt xs k = some a → a < k ∧ xs.getD a 0 < xs.getD (a + 1) 0
  | 0, a, h => by cases h
  | k + 1, a, h => by
    unfold fAt at h
    split at h
    · obtain ⟨h1, h2⟩ := fAt_some h
      exact ⟨by omega, h2⟩
    · cases h
      exact ⟨by omega, by omega⟩
theorem getL {xs : List Nat} {i : Nat} (h : i < xs.length) : atI ((xs.map dN).map En.d) (i : Int) = some (.d (.int (xs.getD i 0 : Nat))) := by
  refine atI_nat ?_
  rw [List.getElem?_map, List.getElem?_map, List.getElem?_eq_getElem h, List.getD_eq_getElem?_getD, List.getElem?_eq_getElem h]
  rfl
theorem getLi {xs : List Nat} {i : Int} {k : Nat} (e : i = (k : Int)) (h : k < xs.length) : atI ((xs.map dN).map En.d) i = some (.d (.int (xs.getD k 0 : Nat))) := by
  subst e
  exact getL h
theorem fOther_spec {xs : List Nat} {a v : Nat} (h : v < xs.getD (a + 1) 0) : ∀ {j : Nat}, a + 1 ≤ j → a + 1 ≤ fOther xs v j ∧ fOther xs v j ≤ j
  | 0, hj => by omega
  | j + 1, hj => by
    unfold fOther
    split
    · by_cases e : a + 1 = j + 1
      · have : a = j := by omega
        subst this
        omega
      · obtain ⟨h1, h2⟩ := fOther_spec h (j := j) (by omega)
        exact ⟨h1, by omega⟩
    · exact ⟨hj, Nat.le_refl _⟩
def spF : FSp (List Nat) where
  dom := fun xs => xs.length ≤ 8
  args := fun xs => [.d (dL xs)]
  O0 := fun _ => []
  post := fun xs r O' => r = .d (match foll xs with | none => .non | some ys => dL ys) ∧ O' = []
section
variable {P : Program} {w : World} {K : PySem.W.Frag} {mg : Str → Option Value} {base : Heap} {f : Addr} {fd : FuncData}
theorem ok_following (F : FnT K "following" sF f fd) (T : Facts mg) : FnOk P w K mg base CX0 1 f fd ["places"] (spF.sp K) := by
  refine fn_ok0 F scF (fun _ _ => rfl) fun cdv A outer s H EX hr xs (hl : xs.length ≤ 8) => ?_
  have hm8 : ((xs.map dN).map En.d).length = xs.length := by rw [List.length_map, List.length_map]
  refine ws_cons (ws_set 1 (ev_sub (ev_lenL T.len (ev_name 0) lsat_d) ev_int) ?_ scF.nd)
  refine ws_cons (ws_while (fun m E => ∃ i : Int, E = ⟨[some (.d (dL xs)), some (.d (.int i)), none, none], []⟩ ∧ (m : Int) = max (i + 1) 0 ∧ i ≤ (xs.length : Int) - 2 ∧ fAt xs (xs.length - 1) = fAt xs m) ⟨xs.length - 1, _, rfl, ?_, ?_, rfl⟩ .never ?_)
  · rw [hm8]; omega
  · rw [hm8]; omega
  rintro m G O ⟨i, e, hm, hi, he⟩
  cases e
  by_cases h0 : 0 ≤ i
  · obtain ⟨k, rfl⟩ : ∃ k : Nat, i = (k : Int) := ⟨i.toNat, by omega⟩
    have hk : m = k + 1 := by omega
    subst hk
    refine ⟨_, _, et_and (et_ge (ev_name 1) ev_int) (fun _ => et_ge (ev_ixL (ev_name 0) (ev_name 1) lsat_d (getL (by omega))) (ev_ixL (ev_name 0) (ev_add (ev_name 1) ev_int) lsat_d (getLi (k := k + 1) (by omega) (by omega)))) (fun _ => rfl), fun hc => ?_, fun hc => ?_⟩
    · simp only [Bool.and_eq_true, decide_eq_true_eq] at hc
      refine ws_cons (ws_augSub 1 rfl ev_int ?_ scF.nd)
      refine ws_nil ⟨k, by omega, _, rfl, by omega, by omega, ?_⟩
      rw [he]
      show (if xs.getD (k + 1) 0 ≤ xs.getD k 0 then fAt xs k else some k) = _
      rw [if_pos (by omega)]
    · have hlt : xs.getD k 0 < xs.getD (k + 1) 0 := by
        simp only [Bool.and_eq_false_iff, decide_eq_false_iff_not] at hc
        omega
      have hfa : fAt xs (xs.length - 1) = some k := by
        rw [he]
        show (if xs.getD (k + 1) 0 ≤ xs.getD k 0 then fAt xs k else some k) = _
        rw [if_neg (by omega)]
      have hkl : k + 1 < xs.length := by omega
      refine ws_cons (ws_if (et_lt (ev_name 1) ev_int) (fun h => by simp only [decide_eq_true_eq] at h; omega) fun _ => ws_nil ?_)
      refine ws_cons (ws_set 2 (ev_sub (ev_lenL T.len (ev_name 0) lsat_d) ev_int) ?_ scF.nd)
      refine ws_cons (ws_while (fun m E => ∃ j : Nat, E = ⟨[some (.d (dL xs)), some (.d (.int k)), some (.d (.int j)), none], []⟩ ∧ m = j ∧ k + 1 ≤ j ∧ j ≤ xs.length - 1 ∧ fOther xs (xs.getD k 0) (xs.length - 1) = fOther xs (xs.getD k 0) j) ⟨xs.length - 1, xs.length - 1, ?_, rfl, by omega, Nat.le_refl _, rfl⟩ .never ?_)
      · rw [hm8]
        have e : ((xs.length : Int) - 1) = ((xs.length - 1 : Nat) : Int) := by omega
        rw [e]
        rfl
      rintro m G O ⟨j, e, hmj, h1, h2, h3⟩
      cases e
      subst hmj
      refine ⟨_, _, et_le (ev_ixL (ev_name 0) (ev_name 2) lsat_d (getL (by omega))) (ev_ixL (ev_name 0) (ev_name 1) lsat_d (getL (by omega))), fun hc => ?_, fun hc => ?_⟩
      · simp only [decide_eq_true_eq] at hc
        obtain ⟨j, rfl⟩ : ∃ j' : Nat, m = j' + 1 := ⟨m - 1, by omega⟩
        refine ws_cons (ws_augSub 2 rfl ev_int ?_ scF.nd)
        have hne : k + 1 ≠ j + 1 := fun e => by
          have : k = j := by omega
          subst this
          omega
        refine ws_nil ⟨j, by omega, j, ?_, rfl, by omega, by omega, ?_⟩
        · have e : (((j + 1 : Nat) : Int) - 1) = (j : Int) := by omega
          rw [e]
          rfl
        · rw [h3]
          show (if xs.getD (j + 1) 0 ≤ xs.getD k 0 then fOther xs (xs.getD k 0) j else j + 1) = _
          rw [if_pos (by omega)]
      · simp only [decide_eq_false_iff_not] at hc
        have ho : fOther xs (xs.getD k 0) (xs.length - 1) = m := by
          rw [h3]
          obtain ⟨j, rfl⟩ : ∃ j' : Nat, m = j' + 1 := ⟨m - 1, by omega⟩
          show (if xs.getD (j + 1) 0 ≤ xs.getD k 0 then fOther xs (xs.getD k 0) j else j + 1) = _
          rw [if_neg (by omega)]
        refine ws_cons (ws_setN 3 (en_list T.list (ev_name 0) lsat_d) (fun p => ?_) scF.nd)
        refine ws_cons (ws_unpack (ev_tup (ea_cons (ev_ixL (ev_name 3) (ev_name 2) (lsat_own 0) (getL (by omega))) (ea_cons (ev_ixL (ev_name 3) (ev_name 1) (lsat_own 0) (getL (by omega))) ea_nil)))
          (wg_tup (wgs_cons (wg_setitem 0 (r := .d (.int (xs.getD m 0 : Nat))) (n := k) (ev_name 3) (ev_name 1) rfl (by rw [hm8]; unfold ixN; rw [if_pos (by omega), if_pos (by omega)]; rfl)) (wgs_cons (wg_setitem 0 (r := .d (.int (xs.getD k 0 : Nat))) (n := m) (ev_name 3) (ev_name 2) rfl (by rw [List.length_set, hm8]; unfold ixN; rw [if_pos (by omega), if_pos (by omega)]; rfl)) wgs_nil))) ?_)
        have hset : (([(p, OO.lst ((xs.map dN).map En.d))].set 0 (p, OO.lst (((xs.map dN).map En.d).set k (.d (.int (xs.getD m 0 : Nat)))))).set 0 (p, OO.lst ((((xs.map dN).map En.d).set k (.d (.int (xs.getD m 0 : Nat)))).set m (.d (.int (xs.getD k 0 : Nat)))))) = [(p, OO.lst ((((xs.set k (xs.getD m 0)).set m (xs.getD k 0)).map dN).map En.d))] := by
          show [(p, OO.lst _)] = _
          rw [List.map_set, List.map_set, List.map_set, List.map_set]
          rfl
        refine ws_weak (fun _ _ _ g => by rw [hset] at g; exact g) ?_
        have hk2 : k < xs.length := by omega
        have hkl1 : ((k : Int) + 1) = ((k + 1 : Nat) : Int) := by omega
        refine ws_cons (ws_ret_drop (O2 := []) (EN.lst (ds := (((((xs.set k (xs.getD m 0)).set m (xs.getD k 0))).take (k + 1)) ++ ((((xs.set k (xs.getD m 0)).set m (xs.getD k 0))).drop (k + 1)).reverse).map dN) (EN.toL (en_cat
          (EN.lst (ds := (((xs.set k (xs.getD m 0)).set m (xs.getD k 0)).take (k + 1)).map dN) (EN.toL (en_slice (i := none) (j := some ((k + 1 : Nat) : Int)) (ev_name 3) rfl ((ev_add (ev_name 1) ev_int).to (by rw [hkl1])) (lsat_own 0)) (by rw [cutD_take, ← List.map_take, ← List.map_take])))
          (EN.lst (ds := (((xs.set k (xs.getD m 0)).set m (xs.getD k 0)).drop (k + 1)).reverse.map dN) (EN.toL (en_rev (EN.lst (ds := (((xs.set k (xs.getD m 0)).set m (xs.getD k 0)).drop (k + 1)).map dN) (EN.toL (en_slice (i := some ((k + 1 : Nat) : Int)) (j := none) (ev_name 3) ((ev_add (ev_name 1) ev_int).to (by rw [hkl1])) rfl (lsat_own 0)) (by rw [cutD_drop, ← List.map_drop, ← List.map_drop]))) lsat_d) (by rw [← List.map_reverse, ← List.map_reverse])))
          lsx_d lsx_d ?_) (by rw [List.map_append, List.map_append]))) (List.nil_sublist _) ?_)
        · have : sizeLine = 2 ^ 24 := rfl
          simp only [List.length_map, List.length_take, List.length_drop, List.length_reverse, List.length_set, this]
          omega
        · refine ⟨?_, rfl⟩
          unfold foll
          rw [hfa]
          simp only [ho]
          rfl
  · have hk : m = 0 := by omega
    subst hk
    refine ⟨_, _, et_and (d := false) (et_ge (ev_name 1) ev_int) (fun h => absurd h (by simpa only [decide_eq_true_eq] using h0)) (fun _ => rfl), fun hc => ?_, fun hc => ?_⟩
    · rw [Bool.and_false] at hc
      cases hc
    · refine ws_cons (ws_if (et_lt (ev_name 1) ev_int) (fun h => ws_cons (ws_ret ev_non ?_)) fun h => by simp only [decide_eq_false_iff_not] at h; omega)
      refine ⟨?_, rfl⟩
      unfold foll
      rw [he]
      rfl
end
/-! ### Weaving -/
def weav (W : Addr) (xs : List Nat) : OO := .ins W [("turns", .d (.tupS (xs.map dN))), ("many", .d (.int xs.length))]
structure CF (K : PySem.W.Frag) (mg : Str → Option Value) (W : Addr) : Prop where
  mgW : mg "Weaving" = some (.ref W)
  cls : Cls K W
  turns : NoAttr K W "turns"
  many : NoAttr K W "many"
  isi : IsiC K W
  one : PySem.W.kitOne K (.ref W) (.ref W) = some true
abbrev cW : Stmt := top 23
def clsBody : Stmt → List Stmt
  | .ClassDef (body := b) .. => b
  | _ => []
abbrev sInit : Stmt := (clsBody cW).getD 0 (.Pass ⟨0, 0, 0, 0⟩)
abbrev sIadd : Stmt := (clsBody cW).getD 7 (.Pass ⟨0, 0, 0, 0⟩)
abbrev FnM (K : PySem.W.Frag) (x q : Str) (st : Stmt) (f : Addr) (fd : FuncData) : Prop := FunD K x q (defArgs st) (defBody st) (defScope st) [] [] f fd
theorem scInit : FnScope ["self", "turns", "writer"] ["self", "turns"] (defScope sInit) := ⟨rfl, rfl, rfl, by decide +kernel, rfl, by decide +kernel, by decide +kernel⟩
theorem scIadd : FnScope ["self", "other"] ["self", "other"] (defScope sIadd) := ⟨rfl, rfl, rfl, by decide +kernel, rfl, by decide +kernel, by decide +kernel⟩
def spInit (W : Addr) : FSp (Addr × List Nat) where
  dom := fun i => i.2.length ≤ 1000
  args := fun i => [.raw (.ref i.1), .d (dL i.2)]
  O0 := fun i => [(i.1, .ins W [])]
  post := fun i r O' => r = .d .non ∧ O' = [(i.1, weav W i.2)]
def spIadd (W : Addr) : FSp (Addr × List Nat × List (Str × D) × List Nat) where
  dom := fun i => i.2.1.length + i.2.2.2.length ≤ 1000
  args := fun i => [.raw (.ref i.1), .d (.ins W [("turns", .tupS (i.2.2.2.map dN)), ("many", .int i.2.2.2.length)])]
  O0 := fun i => [(i.1, weav W i.2.1)]
  post := fun i r O' => r = .raw (.ref i.1) ∧ O' = [(i.1, .ins W [("turns", .d (.tup ((i.2.1 ++ i.2.2.2).map dN))), ("many", .d (.int ((i.2.1.length + i.2.2.2.length : Nat) : Int)))])]
section
variable {P : Program} {w : World} {K : PySem.W.Frag} {mg : Str → Option Value} {base : Heap} {f W : Addr} {fd : FuncData}
theorem ok_init (F : FnM K "__init__" "Weaving.__init__" sInit f fd) (T : Facts mg) (C : CF K mg W) : FnOk P w K mg base CX0 1 f fd ["self", "turns"] ((spInit W).sp K) := by
  refine fn_ok0 F scInit (fun _ _ => rfl) fun cdv A outer s H EX hr i (hl : i.2.length ≤ 1000) => ?_
  obtain ⟨q, xs⟩ := i
  have hl : xs.length ≤ 1000 := hl
  refine ws_cons (ws_for (iw_list (ev_name 1)) (fun k E => ∃ z, E = ⟨[some (.raw (.ref q)), some (.d (dL xs)), z], [(q, .ins W [])]⟩) ⟨none, rfl⟩ (fun _ _ _ _ => trivial) .never (fun k G O hk hI => ?_) (fun E hI => ?_))
  · obtain ⟨z, e⟩ := hI
    cases e
    have hk' : k < xs.length := by simpa using hk
    refine ⟨_, _, wg_name 2 scInit.nd, ?_⟩
    have ed : (xs.map dN).getD k .non = .int (xs.getD k 0 : Nat) := by
      rw [List.getD_eq_getElem?_getD, List.getElem?_map, List.getElem?_eq_getElem hk', List.getD_eq_getElem?_getD, List.getElem?_eq_getElem hk']
      rfl
    rw [ed]
    refine ws_cons (ws_if (et_lt (ev_name 2) ev_int) (fun h => ?_) fun _ => ws_nil (ws_nil ⟨_, rfl⟩))
    simp only [decide_eq_true_eq] at h
    omega
  · obtain ⟨z, e⟩ := hI
    subst e
    refine ws_cons (ws_fld 0 (ev_tupleS (ds := xs.map dN) T.tuple (ev_name 1) lsat_d) (ev_name 0) rfl C.cls C.turns ?_)
    refine ws_cons (ws_fld 0 (ev_lenT T.len (ev_tupW (ev_fld (ev_name 0) (insat_own 0) C.cls C.turns rfl))) (ev_name 0) rfl C.cls C.many ?_)
    refine ws_nil ⟨rfl, ?_⟩
    show [(q, OO.ins W [("turns", En.d (.tupS (xs.map dN))), ("many", .d (.int ((xs.map dN).length : Nat)))])] = _
    rw [List.length_map]
    rfl
theorem ok_iadd (F : FnM K "__iadd__" "Weaving.__iadd__" sIadd f fd) (T : Facts mg) (C : CF K mg W) : FnOk P w K mg base CX0 1 f fd ["self", "other"] ((spIadd W).sp K) := by
  refine fn_ok0 F scIadd (fun _ _ => rfl) fun cdv A outer s H EX hr i hdom => ?_
  obtain ⟨q, xs, _, ys⟩ := i
  have h1 : xs.length + ys.length ≤ 1000 := hdom
  have sz : sizeLine = 2 ^ 24 := rfl
  refine ws_cons (ws_fld 0 (ev_catTA (ds := xs.map dN) (es := ys.map dN) (ev_tupW (ev_fld (ev_name 0) (insat_own 0) C.cls C.turns rfl)) (ev_tupW (ev_fld (ev_name 1) insat_d C.cls C.turns rfl)) ?_) (ev_name 0) rfl C.cls C.turns ?_)
  · rw [List.length_map, List.length_map, sz]
    omega
  refine ws_cons (ws_fld 0 (ev_lenT T.len (ev_fld (ev_name 0) (insat_own 0) C.cls C.turns rfl)) (ev_name 0) rfl C.cls C.many ?_)
  refine ws_cons (ws_ret (ev_name 0) ⟨rfl, ?_⟩)
  show [(q, OO.ins W [("turns", En.d (.tup (xs.map dN ++ ys.map dN))), ("many", .d (.int ((xs.map dN ++ ys.map dN).length : Nat)))])] = _
  rw [← List.map_append, List.length_map, List.length_append]
end
end TT

/-! _law_is_int, _law_same: what is the same gives True. -/
namespace TT
open PySem PySem.Spec PyProof.Rows L2 Lx
def isIntD : D → Bool
  | .int _ => true
  | _ => false
def plainD : D → Prop
  | .non => True
  | .bl _ => True
  | .int _ => True
  | .str _ => True
  | .lst _ => True
  | .tup _ => True
  | .tupS _ => True
  | .dK _ => True
  | _ => False
def asT : D → Option (List D)
  | .tup xs => some xs
  | .tupS xs => some xs
  | _ => none
/-- the same, to a depth -/
def SameD : Nat → D → D → Prop
  | _, .non, .non => True
  | _, .bl a, .bl b => a = b
  | _, .int a, .int b => a = b
  | _, .str a, .str b => a = b
  | n + 1, .lst xs, .lst ys => xs.length = ys.length ∧ xs.length < 2 ^ 62 ∧ ∀ k, k < xs.length → SameD n (xs.getD k .non) (ys.getD k .non)
  | n + 1, .tup xs, .tup ys => xs.length = ys.length ∧ xs.length < 2 ^ 62 ∧ ∀ k, k < xs.length → SameD n (xs.getD k .non) (ys.getD k .non)
  | n + 1, .tupS xs, .tup ys => xs.length = ys.length ∧ xs.length < 2 ^ 62 ∧ ∀ k, k < xs.length → SameD n (xs.getD k .non) (ys.getD k .non)
  | n + 1, .tup xs, .tupS ys => xs.length = ys.length ∧ xs.length < 2 ^ 62 ∧ ∀ k, k < xs.length → SameD n (xs.getD k .non) (ys.getD k .non)
  | n + 1, .tupS xs, .tupS ys => xs.length = ys.length ∧ xs.length < 2 ^ 62 ∧ ∀ k, k < xs.length → SameD n (xs.getD k .non) (ys.getD k .non)
  | _, _, _ => False
abbrev sIsInt : Stmt := top 28
abbrev sSame : Stmt := top 29
theorem scIsInt : FnScope ["_law_thing"] ["_law_thing"] (defScope sIsInt) := ⟨rfl, rfl, rfl, by decide +kernel, rfl, by decide +kernel, by decide +kernel⟩
theorem scSame : FnScope ["_law_actual", "_law_due", "_law_key", "_law_k"] ["_law_actual", "_law_due"] (defScope sSame) := ⟨rfl, rfl, rfl, by decide +kernel, rfl, by decide +kernel, by decide +kernel⟩
def spIsInt : FSp D where
  dom := plainD
  args := fun d => [.d d]
  O0 := fun _ => []
  post := fun d r O' => r = .d (.bl (isIntD d)) ∧ O' = []
def spSame (n : Nat) : FSp (D × D) where
  dom := fun i => SameD n i.1 i.2
  args := fun i => [.d i.1, .d i.2]
  O0 := fun _ => []
  post := fun _ r O' => r = .d (.bl true) ∧ O' = []
theorem getDL {xs : List D} {k : Nat} (h : k < xs.length) : atI (xs.map En.d) (k : Int) = some (.d (xs.getD k .non)) := by
  refine atI_nat ?_
  rw [List.getElem?_map, List.getElem?_eq_getElem h, List.getD_eq_getElem?_getD, List.getElem?_eq_getElem h]
  rfl
theorem getDT {xs : List D} {k : Nat} (h : k < xs.length) : atI xs (k : Int) = some (xs.getD k .non) := by
  refine atI_nat ?_
  rw [List.getElem?_eq_getElem h, List.getD_eq_getElem?_getD, List.getElem?_eq_getElem h]
  rfl
section
variable {P : Program} {w : World} {K : PySem.W.Frag} {mg : Str → Option Value} {base : Heap} {f : Addr} {fd : FuncData}
theorem kit_int : ∀ s ∈ ["NoneType", "bool", "int", "str", "list", "tuple", "dict"], kitB s "int" = some (s == "int" || s == "bool") := by decide +kernel
theorem kit_bool : ∀ s ∈ ["NoneType", "bool", "int", "str", "list", "tuple", "dict"], kitB s "bool" = some (s == "bool") := by decide +kernel
theorem kit_str : ∀ s ∈ ["NoneType", "bool", "int", "str", "list", "tuple", "dict"], kitB s "str" = some (s == "str") := by decide +kernel
theorem kit_list : ∀ s ∈ ["NoneType", "bool", "int", "str", "list", "tuple", "dict"], kitB s "list" = some (s == "list") := by decide +kernel
theorem kit_tuple : ∀ s ∈ ["NoneType", "bool", "int", "str", "list", "tuple", "dict"], kitB s "tuple" = some (s == "tuple") := by decide +kernel
theorem kit_dict : ∀ s ∈ ["NoneType", "bool", "int", "str", "list", "tuple", "dict"], kitB s "dict" = some (s == "dict") := by decide +kernel
theorem plain_ty {d : D} (h : plainD d) : tyD d ∈ ["NoneType", "bool", "int", "str", "list", "tuple", "dict"] ∧ tyD d ≠ "?" ∧ ∀ kvs, d ≠ .dT kvs := by
  cases d <;> first | exact h.elim | exact ⟨by simp [tyD], by simp [tyD], fun _ z => nomatch z⟩
theorem ok_isInt (F : FnT K "_law_is_int" sIsInt f fd) (T : Facts mg) : FnOk P w K mg base CX0 1 f fd ["_law_thing"] (spIsInt.sp K) := by
  refine fn_ok0 F scIsInt (fun _ _ => rfl) fun cdv A outer s H EX hr d (hd : plainD d) => ?_
  obtain ⟨h1, h2, h3⟩ := plain_ty hd
  refine ws_cons (ws_ret (ev_and (ev_isi T.isi (ev_name 0) (ev_ty T.int (by decide +kernel)) (kit_int _ h1) h2 h3) (fun _ => ev_not (ev_isi T.isi (ev_name 0) (ev_ty T.bool (by decide +kernel)) (kit_bool _ h1) h2 h3)) (fun _ => rfl)) ⟨?_, rfl⟩)
  cases d <;> first | exact hd.elim | rfl
theorem fn_isInt (F : FnT K "_law_is_int" sIsInt f fd) (T : Facts mg) (hm : mg "_law_is_int" = some (.ref f)) : Fn P w K mg base CX0 1 "_law_is_int" ["_law_thing"] (spIsInt.sp K) :=
  Fn.mk0 F hm (ok_isInt F T) fun _ _ _ _ _ _ us h => by
    match us, h with
    | [a], _ => rfl
theorem ok_same (F : FnT K "_law_same" sSame f fd) (T : Facts mg) (hm : mg "_law_same" = some (.ref f)) (Fi : Fn P w K mg base CX0 1 "_law_is_int" ["_law_thing"] (spIsInt.sp K)) : ∀ n, FnOk P w K mg base CX0 (n + 2) f fd ["_law_actual", "_law_due"] ((spSame n).sp K) := by
  have scalar : ∀ (n : Nat) (cdv : Value) (A : Around) (outer : List PySem.Env) (s : Shared) (H : Hp) (EX : XK), Room 1 (cxOf CX0 P w K mg base ["_law_actual", "_law_due", "_law_key", "_law_k"] "_law_same" (defScope sSame) f cdv A outer s H EX).nox.A → ∀ d1 d2, SameD 0 d1 d2 →
      WSs (cxOf CX0 P w K mg base ["_law_actual", "_law_due", "_law_key", "_law_k"] "_law_same" (defScope sSame) f cdv A outer s H EX).nox (defBody sSame) { nx := fun E => (spSame n).post (d1, d2) (.d .non) E.O, rt := (spSame n).post (d1, d2) } ⟨[some (.d d1), some (.d d2), none, none], []⟩ := by
    intro n cdv A outer s H EX hr d1 d2 hd
    cases d1 <;> cases d2 <;> first | exact hd.elim | skip
    · exact ws_cons (ws_ifT (et_isN (ev_name 1) ev_non) (ws_cons (ws_ret (ev_isN (ev_name 0) ev_non) ⟨rfl, rfl⟩)))
    · rename_i b1 b2
      have hd : b1 = b2 := hd
      subst hd
      refine ws_cons (ws_ifF (et_isN (ev_name 1) ev_non) (ws_nil ?_))
      cases b1 with
      | true => exact ws_cons (ws_ifT (et_isB (ev_name 1) ev_bl) (ws_cons (ws_ret (ev_isB (ev_name 0) ev_bl) ⟨rfl, rfl⟩)))
      | false =>
        refine ws_cons (ws_ifF (et_isB (ev_name 1) ev_bl) (ws_nil ?_))
        exact ws_cons (ws_ifT (et_isB (ev_name 1) ev_bl) (ws_cons (ws_ret (ev_isB (ev_name 0) ev_bl) ⟨rfl, rfl⟩)))
    · rename_i a b
      have hd : a = b := hd
      subst hd
      obtain ⟨p2, q2, r2⟩ := plain_ty (d := .int a) trivial
      refine ws_cons (ws_ifF (et_isN (ev_name 1) ev_non) (ws_nil ?_))
      refine ws_cons (ws_ifF (et_isB (ev_name 1) ev_bl) (ws_nil ?_))
      refine ws_cons (ws_ifF (et_isB (ev_name 1) ev_bl) (ws_nil ?_))
      refine ws_cons (ws_ifT (et_val (ev_isi T.isi (ev_name 1) (ev_ty T.int (by decide +kernel)) (kit_int _ p2) q2 r2)) (ws_cons (ws_ret (ev_and (ev_call Fi hr (.int a) trivial (ea_cons (ev_name 0) ea_nil) (Or := []) (List.Perm.refl _) (fun _ _ z => z)) (fun _ => ev_eqI (ev_name 0) (ev_name 1)) (fun _ => rfl)) ⟨?_, rfl⟩)))
      show En.d (.bl (true && decide (a = a))) = _
      rw [decide_eq_true rfl]
      rfl
    · rename_i a b
      have hd : a = b := hd
      subst hd
      obtain ⟨p1, q1, r1⟩ := plain_ty (d := .str a) trivial
      obtain ⟨p2, q2, r2⟩ := plain_ty (d := .str a) trivial
      refine ws_cons (ws_ifF (et_isN (ev_name 1) ev_non) (ws_nil ?_))
      refine ws_cons (ws_ifF (et_isB (ev_name 1) ev_bl) (ws_nil ?_))
      refine ws_cons (ws_ifF (et_isB (ev_name 1) ev_bl) (ws_nil ?_))
      refine ws_cons (ws_ifF (et_val (ev_isi T.isi (ev_name 1) (ev_ty T.int (by decide +kernel)) (kit_int _ p2) q2 r2)) (ws_nil ?_))
      refine ws_cons (ws_ifT (et_val (ev_isi T.isi (ev_name 1) (ev_ty T.str (by decide +kernel)) (kit_str _ p2) q2 r2)) (ws_cons (ws_ret (ev_and (ev_isi T.isi (ev_name 0) (ev_ty T.str (by decide +kernel)) (kit_str _ p1) q1 r1) (fun _ => ev_eqS (ev_name 0) (ev_name 1)) (fun _ => rfl)) ⟨?_, rfl⟩)))
      show En.d (.bl (true && decide (a = a))) = _
      rw [decide_eq_true rfl]
      rfl
  intro n
  induction n with
  | zero =>
    refine fn_ok0 F scSame (fun _ _ => rfl) fun cdv A outer s H EX hr i hd => ?_
    exact scalar 0 cdv A outer s H EX hr i.1 i.2 hd
  | succ n ih =>
    have Fs : Fn P w K mg base CX0 (n + 2) "_law_same" ["_law_actual", "_law_due"] ((spSame n).sp K) := Fn.mk0 F hm ih fun _ _ _ _ _ _ us h => by
      match us, h with
      | [a, b], _ => rfl
    refine fn_ok0 F scSame (fun _ _ => rfl) fun cdv A outer s H EX hr i hd => ?_
    obtain ⟨d1, d2⟩ := i
    have hd : SameD (n + 1) d1 d2 := hd
    have lists : ∀ xs ys, xs.length = ys.length ∧ xs.length < 2 ^ 62 ∧ (∀ k, k < xs.length → SameD n (xs.getD k .non) (ys.getD k .non)) → WSs (cxOf CX0 P w K mg base ["_law_actual", "_law_due", "_law_key", "_law_k"] "_law_same" (defScope sSame) f cdv A outer s H EX).nox (defBody sSame) { nx := fun E => (spSame (n + 1)).post (.lst xs, .lst ys) (.d .non) E.O, rt := (spSame (n + 1)).post (.lst xs, .lst ys) } ⟨[some (.d (.lst xs)), some (.d (.lst ys)), none, none], []⟩ := by
      intro xs ys ⟨hl, hb, hs⟩
      obtain ⟨p1, q1, r1⟩ := plain_ty (d := .lst xs) trivial
      obtain ⟨p2, q2, r2⟩ := plain_ty (d := .lst ys) trivial
      refine ws_cons (ws_ifF (et_isN (ev_name 1) ev_non) (ws_nil ?_))
      refine ws_cons (ws_ifF (et_isB (ev_name 1) ev_bl) (ws_nil ?_))
      refine ws_cons (ws_ifF (et_isB (ev_name 1) ev_bl) (ws_nil ?_))
      refine ws_cons (ws_ifF (et_val (ev_isi T.isi (ev_name 1) (ev_ty T.int (by decide +kernel)) (kit_int _ p2) q2 r2)) (ws_nil ?_))
      refine ws_cons (ws_ifF (et_val (ev_isi T.isi (ev_name 1) (ev_ty T.str (by decide +kernel)) (kit_str _ p2) q2 r2)) (ws_nil ?_))
      refine ws_cons (ws_ifF (et_val (ev_isi T.isi (ev_name 1) (ev_ty T.dict (by decide +kernel)) (kit_dict _ p2) q2 r2)) (ws_nil ?_))
      refine ws_cons (ws_ifF (et_and (et_val (ev_isi T.isi (ev_name 1) (ev_ty T.list (by decide +kernel)) (kit_list _ p2) q2 r2)) (fun _ => et_not (et_val (ev_isi T.isi (ev_name 0) (ev_ty T.list (by decide +kernel)) (kit_list _ p1) q1 r1))) (fun _ => rfl)) (ws_nil ?_))
      refine ws_cons (ws_ifF (et_and (d := false) (et_val (ev_isi T.isi (ev_name 1) (ev_ty T.tuple (by decide +kernel)) (kit_tuple _ p2) q2 r2)) (fun z => nomatch z) (fun _ => rfl)) (ws_nil ?_))
      refine ws_cons (ws_ifF (et_neI (ev_lenL T.len (ev_name 0) lsat_d) (ev_lenL T.len (ev_name 1) lsat_d)) (ws_nil ?_) (by rw [List.length_map, List.length_map, hl, decide_eq_true rfl]; rfl))
      refine ws_cons (ws_for (iw_range T.range (ev_lenL T.len (ev_name 1) lsat_d) (by omega) (by rw [List.length_map]; omega)) (fun k E => ∃ z, E = ⟨[some (.d (.lst xs)), some (.d (.lst ys)), none, z], []⟩) ⟨_, rfl⟩ (fun _ _ _ _ => trivial) .never (fun k G O hk hI => ?_) (fun E hI => ?_))
      · obtain ⟨z, e⟩ := hI
        cases e
        have hk' : k < ys.length := by
          rw [List.length_map] at hk
          omega
        refine ⟨_, _, wg_name 3 scSame.nd, ?_⟩
        refine ws_cons (ws_ifF (et_not (et_val (ev_call Fs hr (xs.getD k .non, ys.getD k .non) (hs k (by omega)) (ea_cons (ev_ixL (r := .d (xs.getD k .non)) (ev_name 0) (ev_name 3) lsat_d ?_) (ea_cons (ev_ixL (r := .d (ys.getD k .non)) (ev_name 1) (ev_name 3) lsat_d ?_) ea_nil)) (Or := []) (List.Perm.refl _) (fun _ _ z => z)))) (ws_nil (ws_nil ⟨_, rfl⟩)))
        · exact getDL (by omega)
        · exact getDL hk'
      · obtain ⟨z, e⟩ := hI
        subst e
        exact ws_cons (ws_ret ev_bl ⟨rfl, rfl⟩)
    have tups : ∀ d1 d2 xs ys, ((d1 = .tup xs ∨ d1 = .tupS xs) ∧ (d2 = .tup ys ∨ d2 = .tupS ys)) → xs.length = ys.length ∧ xs.length < 2 ^ 62 ∧ (∀ k, k < xs.length → SameD n (xs.getD k .non) (ys.getD k .non)) → WSs (cxOf CX0 P w K mg base ["_law_actual", "_law_due", "_law_key", "_law_k"] "_law_same" (defScope sSame) f cdv A outer s H EX).nox (defBody sSame) { nx := fun E => (spSame (n + 1)).post (d1, d2) (.d .non) E.O, rt := (spSame (n + 1)).post (d1, d2) } ⟨[some (.d d1), some (.d d2), none, none], []⟩ := by
      intro d1 d2 xs ys ⟨h1, h2⟩ ⟨hl, hb, hs⟩
      have pl1 : plainD d1 := by rcases h1 with h | h <;> subst h <;> trivial
      have pl2 : plainD d2 := by rcases h2 with h | h <;> subst h <;> trivial
      have t1 : tyD d1 = "tuple" := by rcases h1 with h | h <;> subst h <;> rfl
      have t2 : tyD d2 = "tuple" := by rcases h2 with h | h <;> subst h <;> rfl
      have n2 : isNon d2 = false := by rcases h2 with h | h <;> subst h <;> rfl
      have b2 : ∀ c, isBl c d2 = false := fun c => by rcases h2 with h | h <;> subst h <;> rfl
      obtain ⟨p1, q1, r1⟩ := plain_ty pl1
      obtain ⟨p2, q2, r2⟩ := plain_ty pl2
      have g1 : ∀ {X : Cx} {G : List (Option En)} {O O1 : List OE} {e : Expr}, EV X e ⟨G, O⟩ (.d d1) O1 → EV X e ⟨G, O⟩ (.d (.tup xs)) O1 := fun h => by
        rcases h1 with e | e
        · rw [e] at h; exact h
        · rw [e] at h; exact ev_tupW h
      have g2 : ∀ {X : Cx} {G : List (Option En)} {O O1 : List OE} {e : Expr}, EV X e ⟨G, O⟩ (.d d2) O1 → EV X e ⟨G, O⟩ (.d (.tup ys)) O1 := fun h => by
        rcases h2 with e | e
        · rw [e] at h; exact h
        · rw [e] at h; exact ev_tupW h
      refine ws_cons (ws_ifF (et_isN (ev_name 1) ev_non) (ws_nil ?_) n2)
      refine ws_cons (ws_ifF (et_isB (ev_name 1) ev_bl) (ws_nil ?_) (b2 _))
      refine ws_cons (ws_ifF (et_isB (ev_name 1) ev_bl) (ws_nil ?_) (b2 _))
      refine ws_cons (ws_ifF (et_val (ev_isi T.isi (ev_name 1) (ev_ty T.int (by decide +kernel)) (kit_int _ p2) q2 r2)) (ws_nil ?_) (by rw [t2]; rfl))
      refine ws_cons (ws_ifF (et_val (ev_isi T.isi (ev_name 1) (ev_ty T.str (by decide +kernel)) (kit_str _ p2) q2 r2)) (ws_nil ?_) (by rw [t2]; rfl))
      refine ws_cons (ws_ifF (et_val (ev_isi T.isi (ev_name 1) (ev_ty T.dict (by decide +kernel)) (kit_dict _ p2) q2 r2)) (ws_nil ?_) (by rw [t2]; rfl))
      refine ws_cons (ws_ifF (et_and (d := false) (et_val (ev_isi T.isi (ev_name 1) (ev_ty T.list (by decide +kernel)) (kit_list _ p2) q2 r2)) (fun z => by rw [t2] at z; cases z) (fun _ => rfl)) (ws_nil ?_) (by rw [t2]; rfl))
      refine ws_cons (ws_ifF (et_and (et_val (ev_isi T.isi (ev_name 1) (ev_ty T.tuple (by decide +kernel)) (kit_tuple _ p2) q2 r2)) (fun _ => et_not (et_val (ev_isi T.isi (ev_name 0) (ev_ty T.tuple (by decide +kernel)) (kit_tuple _ p1) q1 r1))) (fun _ => rfl)) (ws_nil ?_) (by rw [t1, Bool.and_eq_false_iff]; exact .inr rfl))
      refine ws_cons (ws_ifF (et_neI (ev_lenT T.len (g1 (ev_name 0))) (ev_lenT T.len (g2 (ev_name 1)))) (ws_nil ?_) (by rw [hl, decide_eq_true rfl]; rfl))
      refine ws_cons (ws_for (iw_range T.range (ev_lenT T.len (g2 (ev_name 1))) (by omega) (by omega)) (fun k E => ∃ z, E = ⟨[some (.d d1), some (.d d2), none, z], []⟩) ⟨_, rfl⟩ (fun _ _ _ _ => trivial) .never (fun k G O hk hI => ?_) (fun E hI => ?_))
      · obtain ⟨z, e⟩ := hI
        cases e
        have hk' : k < ys.length := by omega
        refine ⟨_, _, wg_name 3 scSame.nd, ?_⟩
        refine ws_cons (ws_ifF (et_not (et_val (ev_call Fs hr (xs.getD k .non, ys.getD k .non) (hs k (by omega)) (ea_cons (ev_ixT (d := xs.getD k .non) (g1 (ev_name 0)) (ev_name 3) ?_) (ea_cons (ev_ixT (d := ys.getD k .non) (g2 (ev_name 1)) (ev_name 3) ?_) ea_nil)) (Or := []) (List.Perm.refl _) (fun _ _ z => z)))) (ws_nil (ws_nil ⟨_, rfl⟩)))
        · exact getDT (by omega)
        · exact getDT hk'
      · obtain ⟨z, e⟩ := hI
        subst e
        exact ws_cons (ws_ret ev_bl ⟨rfl, rfl⟩)
    cases d1 <;> cases d2 <;> first | exact hd.elim | exact scalar (n + 1) cdv A outer s H EX (hr.mono (by omega)) _ _ hd | exact lists _ _ hd | exact tups _ _ _ _ ⟨.inl rfl, .inl rfl⟩ hd | exact tups _ _ _ _ ⟨.inl rfl, .inr rfl⟩ hd | exact tups _ _ _ _ ⟨.inr rfl, .inl rfl⟩ hd | exact tups _ _ _ _ ⟨.inr rfl, .inr rfl⟩ hd
end
end TT

/-! k45: interleavings. -/
namespace TT
open PySem PySem.Spec PyProof.Rows L2 Lx
abbrev sInter : Stmt := top 24
theorem scInter : GScope ["counts", "places", "writer", "count", "_"] ["counts"] (defScope sInter) := ⟨rfl, rfl, rfl, by decide +kernel, rfl, by decide +kernel, by decide +kernel⟩
theorem ncInter : NoCells (defScope sInter) := ⟨fun _ => rfl, by decide +kernel⟩
def placesT (c : List Nat) : Nat → List Nat
  | 0 => []
  | k + 1 => placesT c k ++ List.replicate (c.getD k 0) k
def places (c : List Nat) : List Nat := placesT c c.length
theorem lcAcc_rep (x : En) : ∀ m, lcAcc (fun _ => true) (fun _ => x) m = List.replicate m x
  | 0 => rfl
  | m + 1 => by
    rw [lcAcc_succ, if_pos rfl, lcAcc_rep x m]
    exact List.replicate_succ'.symm
theorem lc2_places (c : List Nat) : ∀ n, lc2Acc (fun _ => true) (fun k => c.getD k 0) (fun _ _ => true) (fun k _ => .d (.int (k : Nat))) n = ((placesT c n).map dN).map En.d
  | 0 => rfl
  | n + 1 => by
    show lc2Acc _ _ _ _ n ++ _ = _
    rw [if_pos rfl, lc2_places c n, lcAcc_rep]
    show _ = ((placesT c n ++ List.replicate (c.getD n 0) n).map dN).map En.d
    rw [List.map_append, List.map_append, List.map_replicate, List.map_replicate]
    rfl
theorem blkInter : BlkOk ["counts", "places", "writer", "count", "_"] (defScope sInter) (cmpSc sInter 0) [("writer", 2), ("count", 3), ("_", 4)] := ⟨rfl, by decide +kernel, by decide +kernel, by decide +kernel, by decide +kernel⟩
theorem placesT_len (c : List Nat) : ∀ n, (placesT c n).length ≤ (placesT c (n + 1)).length
  | n => by
    show _ ≤ (placesT c n ++ _).length
    rw [List.length_append]
    exact Nat.le_add_right _ _
theorem placesT_mono (c : List Nat) {n m : Nat} (h : n ≤ m) : (placesT c n).length ≤ (placesT c m).length := by
  induction m with
  | zero =>
    have : n = 0 := by omega
    subst this
    exact Nat.le_refl _
  | succ m ih =>
    by_cases e : n = m + 1
    · subst e
      exact Nat.le_refl _
    · exact Nat.le_trans (ih (by omega)) (placesT_len c m)
def chain : Nat → List Nat → Option (List (List Nat))
  | 0, _ => none
  | n + 1, p => match foll p with
    | none => some [p]
    | some q => (chain n q).map (p :: ·)
def item (W : Addr) (w : List Nat) : Item := fun r N => ∃ q, r = .raw (.ref q) ∧ N = [(q, weav W w)]
def spG (W : Addr) : GSpec (List Nat) where
  dom := fun c => c.length ≤ 4 ∧ (places c).length ≤ 8 ∧ ∃ ws, chain 720 (places c) = some ws
  args := fun c => [.d (dL c)]
  items := fun c => ((chain 720 (places c)).getD []).map (item W)
theorem foll_len {p q : List Nat} (h : foll p = some q) : q.length = p.length := by
  unfold foll at h
  split at h
  · cases h
  · have h := Option.some.inj h
    rw [← h]
    simp only [List.length_append, List.length_take, List.length_reverse, List.length_drop, List.length_set]
    omega
section
variable {P : Program} {w : World} {K : PySem.W.Frag} {mg : Str → Option Value} {base : Heap} {f W : Addr} {fd : FuncData}
theorem fn_inter (F : FnT K "interleavings" sInter f fd) (T : Facts mg) (C : CF K mg W) (hm : mg "interleavings" = some (.ref f)) (I : In P w K mg base CX0 1 W ["self", "turns"] ((spInit W).sp K)) (Ff : Fn P w K mg base CX0 1 "following" ["places"] (spF.sp K)) : GFn P w K mg base 3 "interleavings" (spG W) := by
  refine GFn.mk0 F scInter ncInter hm (fun _ _ _ _ _ _ us h => ?_) (fun _ _ => rfl) fun g hP hw hK hmg hbs hN hq hs hf hr c hd => ?_
  · match us, h with
    | [a], _ => rfl
  obtain ⟨P', w', K', mg', base', N', qual', scope', f', cdv, A, outer, n, a⟩ := g
  dsimp only at hP hw hK hmg hbs hN hq hs hf
  subst hP hw hK hmg hbs hN hq hs hf
  obtain ⟨hc, hp, ws, hws⟩ := hd
  have sz : sizeLine = 2 ^ 24 := rfl
  have hcl : ∀ k, k < c.length → c.getD k 0 ≤ 8 := fun k hk => by
    have h1 := placesT_mono c (n := k + 1) (m := c.length) hk
    have h2 : (placesT c (k + 1)).length = (placesT c k).length + c.getD k 0 := by
      show (placesT c k ++ List.replicate _ _).length = _
      rw [List.length_append, List.length_replicate]
    have h3 : (placesT c c.length).length ≤ 8 := hp
    omega
  have gd : ∀ k, k < c.length → (c.map dN).getD k .non = .int (c.getD k 0 : Nat) := fun k hk => by
    rw [List.getD_eq_getElem?_getD, List.getElem?_map, List.getElem?_eq_getElem hk, List.getD_eq_getElem?_getD, List.getElem?_eq_getElem hk]
    rfl
  refine gw_cons (gw_plain fun s_1 H_1 => ws_setLc2 (i := 1) (vs1 := [4]) (iw_enum T.enum (ev_name 0)) (fun _ => true) (fun k => c.getD k 0) (fun _ _ => true) (fun k _ => .d (.int (k : Nat))) blkInter (by decide) scInter.nd (fun _ => trivial) (fun k j hk hj => ?_) (fun k hk => ?_) fun p => ?_)
  · have hk : k < c.length := by simpa using hk
    rw [lc2_places]
    have h1 := placesT_mono c (n := k) (m := c.length) (by omega)
    have h2 := lcAcc_len (fun _ => true) (fun _ => En.d (.int (k : Nat))) j
    have h3 : (placesT c c.length).length ≤ 8 := hp
    have h4 := hcl k hk
    rw [List.length_append, List.length_map, List.length_map, sz]
    omega
  · have hk : k < c.length := by simpa using hk
    refine ⟨[some (.d (dL c)), none, some (.d (.int k)), some (.d (.int (c.getD k 0 : Nat))), none], fun s H Ca cl fp => ?_, fun s H Ca cl fp => ets_nil, fun _ => ⟨fun j => .d (.int j), fun _ => True, fun s H Ca cl fp => ?_, fun _ => trivial, ?_, fun j hj => ⟨_, fun s H Ca cl fp => wgn_name 4 scInter.nd, fun s H Ca cl fp => ets_nil, fun _ s H Ca cl fp => ev_name 2⟩⟩⟩
    · rw [gd k hk]
      exact wgn_tup (wgns_cons (wgn_name 2 scInter.nd) (wgns_cons (wgn_name 3 scInter.nd) wgns_nil))
    · exact iw_rangeN T.range (ev_name 3) (by have := hcl k hk; omega)
    · have := hcl k hk
      omega
  refine gw_pub (ds := (places c).map dN) 1 rfl (by rw [List.length_map]; exact lc2_places c _) ?_
  have ewk : ∀ (p : List Nat), p.length ≤ 8 → True := fun _ _ => trivial
  refine gw_cons (gw_while (fun m its E => (m = 0 ∧ its = [] ∧ ∃ a b d, E = ⟨[some (.d (dL c)), some (.d .non), a, b, d], []⟩) ∨ ∃ p ws a b d, p.length ≤ 8 ∧ chain m p = some ws ∧ its = ws.map (item W) ∧ E = ⟨[some (.d (dL c)), some (.d (dL p)), a, b, d], []⟩) ⟨720, .inr ⟨places c, ws, _, _, _, hp, hws, ?_, rfl⟩⟩ ?_)
  · show (((chain 720 (places c)).getD []).map (item W)) = _
    rw [hws]
    rfl
  rintro m its G O (⟨e1, e2, a, b, d, e3⟩ | ⟨p, ws, a, b, d, hl, hch, e2, e3⟩)
  · cases e3
    subst e1 e2
    refine ⟨false, [], fun s_1 H_1 => ET.to (et_notN (ev_name 1) ev_non) rfl, fun z => (nomatch z), fun _ => gw_nil ⟨rfl, rfl⟩⟩
  · cases e3
    subst e2
    refine ⟨true, [], fun s_1 H_1 => ET.to (et_notN (ev_name 1) ev_non) rfl, fun _ => ?_, fun z => (nomatch z)⟩
    obtain ⟨n, rfl⟩ : ∃ n, m = n + 1 := by
      cases m with
      | zero => cases hch
      | succ n => exact ⟨n, rfl⟩
    obtain ⟨ws', e4, hnext⟩ : ∃ ws', ws = p :: ws' ∧ ((foll p = none ∧ ws' = []) ∨ ∃ q, foll p = some q ∧ chain n q = some ws') := by
      unfold chain at hch
      split at hch
      · rename_i h
        cases hch
        exact ⟨[], rfl, .inl ⟨h, rfl⟩⟩
      · rename_i q h
        cases h2 : chain n q with
        | none => rw [h2] at hch; cases hch
        | some us =>
          rw [h2] at hch
          cases hch
          exact ⟨us, rfl, .inr ⟨q, h, h2⟩⟩
    subst e4
    refine gw_cons (gw_yield (P := fun r O' => ∃ q, r = .raw (.ref q) ∧ O' = [(q, weav W p)]) (fun s_1 H_1 => ?_) fun r O' ⟨q, e5, e6⟩ => ⟨[(q, weav W p)], [], by rw [e6]; exact List.Perm.refl _, ⟨q, e5, rfl⟩, ?_⟩)
    · exact (en_make I (hr.mono (by omega)) C.mgW (fun q => (q, p)) (fun q => (by show p.length ≤ 1000; omega)) (ea_cons (ev_name 1) ea_nil) (fun _ => rfl) (fun _ => rfl) (fun _ _ _ h => h)).imp fun r O' h => h
    · refine gw_cons (gw_plain fun s_1 H_1 => ws_set 1 (ev_call Ff (hr.mono (by omega)) p hl (ea_cons (ev_name 1) ea_nil) (Or := []) (List.Perm.refl _) (fun _ _ z => z)) ?_ scInter.nd)
      refine gw_nil ?_
      rcases hnext with ⟨h1, h2⟩ | ⟨q, h1, h2⟩
      · subst h2
        rw [h1]
        exact ⟨0, Nat.succ_pos _, .inl ⟨rfl, rfl, a, b, d, rfl⟩⟩
      · rw [h1]
        exact ⟨n, Nat.lt_succ_self _, .inr ⟨q, ws', a, b, d, by rw [foll_len h1]; exact hl, h2, rfl, rfl⟩⟩
end
end TT

/-! k45: the law's own defs. -/
namespace TT
open PySem PySem.Spec PyProof.Rows L2 Lx
abbrev sProd : Stmt := top 31
abbrev sYield : Stmt := top 32
abbrev sLess : Stmt := top 33
abbrev sRight : Stmt := top 34
theorem scProd : FnScope ["_law_many", "_law_result", "_law_k"] ["_law_many"] (defScope sProd) := ⟨rfl, rfl, rfl, by decide +kernel, rfl, by decide +kernel, by decide +kernel⟩
theorem scYield : FnScope ["_law_counts_here", "_law_found", "_law_weaving"] ["_law_counts_here"] (defScope sYield) := ⟨rfl, rfl, rfl, by decide +kernel, rfl, by decide +kernel, by decide +kernel⟩
theorem scLess : FnScope ["_law_first", "_law_second", "_law_k"] ["_law_first", "_law_second"] (defScope sLess) := ⟨rfl, rfl, rfl, by decide +kernel, rfl, by decide +kernel, by decide +kernel⟩
abbrev nRight : List Str := ["_law_found", "_law_counts_here", "_law_total", "_law_many", "_law_count", "_law_before", "_law_weaving", "_law_k", "_law_turn", "_law_w"]
theorem scRight : FnScope nRight ["_law_found", "_law_counts_here"] (defScope sRight) := ⟨rfl, rfl, rfl, by decide +kernel, rfl, by decide +kernel, by decide +kernel⟩
theorem blkR0 : BlkOk nRight (defScope sRight) (cmpSc sRight 0) [("_law_k", 7)] := ⟨rfl, by decide +kernel, by decide +kernel, by decide +kernel, by decide +kernel⟩
theorem blkR1 : BlkOk nRight (defScope sRight) (cmpSc sRight 1) [("_law_turn", 8)] := ⟨rfl, by decide +kernel, by decide +kernel, by decide +kernel, by decide +kernel⟩
theorem blkR2 : BlkOk nRight (defScope sRight) (cmpSc sRight 2) [("_law_w", 9)] := ⟨rfl, by decide +kernel, by decide +kernel, by decide +kernel, by decide +kernel⟩
def fct : Nat → Nat
  | 0 => 1
  | n + 1 => fct n * (n + 1)
def lessL : List Nat → List Nat → Bool
  | x :: xs, y :: ys => if x = y then lessL xs ys else decide (x < y)
  | _, _ => false
def spProd : FSp Nat where
  dom := fun n => n ≤ 8
  args := fun n => [.d (.int n)]
  O0 := fun _ => []
  post := fun n r O' => r = .d (.int (fct n : Nat)) ∧ O' = []
def spLess : FSp (List Nat × List Nat × D × D) where
  dom := fun i => i.1.length = i.2.1.length ∧ i.1.length ≤ 8 ∧ asT i.2.2.1 = some (i.1.map dN) ∧ asT i.2.2.2 = some (i.2.1.map dN)
  args := fun i => [.d i.2.2.1, .d i.2.2.2]
  O0 := fun _ => []
  post := fun i r O' => r = .d (.bl (lessL i.1 i.2.1)) ∧ O' = []
theorem ev_asT {X : Cx} {e : Expr} {G : List (Option En)} {O O1 : List OE} {d : D} {xs : List D} (hd : asT d = some xs) (h : EV X e ⟨G, O⟩ (.d d) O1) : EV X e ⟨G, O⟩ (.d (.tup xs)) O1 := by
  cases d <;> first | (cases hd; exact h) | (cases hd; exact ev_tupW h) | cases hd
theorem getTN {xs : List Nat} {k : Nat} (h : k < xs.length) : atI (xs.map dN) (k : Int) = some (.int (xs.getD k 0 : Nat)) := by
  refine atI_nat ?_
  rw [List.getElem?_map, List.getElem?_eq_getElem h, List.getD_eq_getElem?_getD, List.getElem?_eq_getElem h]
  rfl
theorem drop_at {xs : List Nat} {k : Nat} (h : k < xs.length) : xs.drop k = xs.getD k 0 :: xs.drop (k + 1) := by
  rw [List.drop_eq_getElem_cons h, List.getD_eq_getElem?_getD, List.getElem?_eq_getElem h]
  rfl
section
variable {P : Program} {w : World} {K : PySem.W.Frag} {mg : Str → Option Value} {base : Heap} {f W : Addr} {fd : FuncData}
theorem ok_prod (F : FnT K "_law_product" sProd f fd) (T : Facts mg) : FnOk P w K mg base CX0 1 f fd ["_law_many"] (spProd.sp K) := by
  refine fn_ok0 F scProd (fun _ _ => rfl) fun cdv A outer s H EX hr n (hn : n ≤ 8) => ?_
  refine ws_cons (ws_set 1 ev_int ?_ scProd.nd)
  refine ws_cons (ws_for (iw_rangeN T.range (ev_name 0) (by omega)) (fun k E => ∃ z, E = ⟨[some (.d (.int n)), some (.d (.int (fct k : Nat))), z], []⟩) ⟨_, rfl⟩ (fun _ _ _ _ => trivial) .never (fun k G O hk hI => ?_) (fun E hI => ?_))
  · obtain ⟨z, e⟩ := hI
    cases e
    refine ⟨_, _, wg_name 2 scProd.nd, ?_⟩
    refine ws_cons (ws_set 1 (EV.to (ev_mul (ev_name 1) (ev_add (ev_name 2) ev_int) (.inr (by constructor <;> omega))) (?_ : _ = En.d (.int (fct (k + 1) : Nat)))) (ws_nil ⟨_, rfl⟩) scProd.nd)
    show En.d (.int ((fct k : Int) * ((k : Int) + 1))) = En.d (.int ((fct k * (k + 1) : Nat) : Int))
    rw [Int.natCast_mul, Int.natCast_add]
    rfl
  · obtain ⟨z, e⟩ := hI
    subst e
    exact ws_cons (ws_ret (ev_name 1) ⟨rfl, rfl⟩)
theorem ok_less (F : FnT K "_law_less" sLess f fd) (T : Facts mg) : FnOk P w K mg base CX0 1 f fd ["_law_first", "_law_second"] (spLess.sp K) := by
  refine fn_ok0 F scLess (fun _ _ => rfl) fun cdv A outer s H EX hr i hd => ?_
  obtain ⟨xs, ys, d1, d2⟩ := i
  obtain ⟨hl, h8, t1, t2⟩ : xs.length = ys.length ∧ xs.length ≤ 8 ∧ asT d1 = some (xs.map dN) ∧ asT d2 = some (ys.map dN) := hd
  refine ws_cons (ws_for (n := xs.length) (iw_rangeN (n := xs.length) T.range (EV.to (ev_lenT T.len (ev_asT t1 (ev_name 0))) (by rw [List.length_map])) (by omega)) (fun k E => (∃ z, E = ⟨[some (.d d1), some (.d d2), z], []⟩) ∧ lessL xs ys = lessL (xs.drop k) (ys.drop k)) ⟨⟨_, rfl⟩, rfl⟩ (fun _ _ _ _ => trivial) .never (fun k G O hk hI => ?_) (fun E hI => ?_))
  · obtain ⟨⟨z, e⟩, hs⟩ := hI
    cases e
    refine ⟨_, _, wg_name 2 scLess.nd, ?_⟩
    rw [drop_at hk, drop_at (by omega : k < ys.length)] at hs
    refine ws_cons (ws_if (et_neI (ev_ixT (ev_asT t1 (ev_name 0)) (ev_name 2) (getTN hk)) (ev_ixT (ev_asT t2 (ev_name 1)) (ev_name 2) (getTN (by omega)))) (fun h => ?_) (fun h => ws_nil (ws_nil ⟨⟨_, rfl⟩, ?_⟩)))
    · have hne : xs.getD k 0 ≠ ys.getD k 0 := fun z => by
        rw [z, decide_eq_true rfl] at h
        cases h
      refine ws_cons (ws_ret (ev_lt (ev_ixT (ev_asT t1 (ev_name 0)) (ev_name 2) (getTN hk)) (ev_ixT (ev_asT t2 (ev_name 1)) (ev_name 2) (getTN (by omega)))) ⟨?_, rfl⟩)
      show _ = En.d (.bl (lessL xs ys))
      rw [hs]
      show _ = En.d (.bl (if _ then _ else _))
      rw [if_neg hne]
      have hz : decide (((xs.getD k 0 : Nat) : Int) < ((ys.getD k 0 : Nat) : Int)) = decide (xs.getD k 0 < ys.getD k 0) := by
        by_cases hz : xs.getD k 0 < ys.getD k 0
        · rw [decide_eq_true hz, decide_eq_true (by omega)]
        · rw [decide_eq_false hz, decide_eq_false (by omega)]
      rw [hz]
    · have he : xs.getD k 0 = ys.getD k 0 := by
        by_cases hz : ((xs.getD k 0 : Nat) : Int) = ((ys.getD k 0 : Nat) : Int)
        · omega
        · rw [decide_eq_false hz] at h
          cases h
      rw [hs]
      show (if _ then _ else _) = _
      rw [if_pos he]
  · obtain ⟨⟨z, e⟩, hs⟩ := hI
    subst e
    refine ws_cons (ws_ret ev_bl ⟨?_, rfl⟩)
    show _ = En.d (.bl (lessL xs ys))
    rw [hs, List.drop_length]
    rfl
theorem fn_prod (F : FnT K "_law_product" sProd f fd) (T : Facts mg) (hm : mg "_law_product" = some (.ref f)) : Fn P w K mg base CX0 1 "_law_product" ["_law_many"] (spProd.sp K) := Fn.mk0 F hm (ok_prod F T) fun _ _ _ _ _ _ us h => by
  match us, h with
  | [a], _ => rfl
theorem fn_less (F : FnT K "_law_less" sLess f fd) (T : Facts mg) (hm : mg "_law_less" = some (.ref f)) : Fn P w K mg base CX0 1 "_law_less" ["_law_first", "_law_second"] (spLess.sp K) := Fn.mk0 F hm (ok_less F T) fun _ _ _ _ _ _ us h => by
  match us, h with
  | [a, b], _ => rfl
/-! ### what comes out, in a list -/
abbrev rawL (qs : List Addr) : List En := qs.map fun q => .raw (.ref q)
abbrev Wv (W : Addr) (qs : List Addr) (ws : List (List Nat)) : List OE := (qs.zip ws).map fun p => (p.1, weav W p.2)
def spYield (W : Addr) : FSp (List Nat) where
  dom := fun c => (spG W).dom c ∧ ∃ ws, chain 720 (places c) = some ws ∧ ws.length ≤ 720
  args := fun c => [.d (dL c)]
  O0 := fun _ => []
  post := fun c r O' => ∃ pl qs ws, chain 720 (places c) = some ws ∧ qs.length = ws.length ∧ r = .raw (.ref pl) ∧ O' = (pl, .lst (rawL qs)) :: Wv W qs ws
theorem ok_yield (F : FnT K "_law_yielded" sYield f fd) (T : Facts mg) (Fg : GFn P w K mg base 3 "interleavings" (spG W)) : FnOk P w K mg base CX0 5 f fd ["_law_counts_here"] ((spYield W).sp K) := by
  refine fn_ok0 F scYield (fun _ _ => rfl) fun cdv A outer s H EX hr c hd => ?_
  obtain ⟨hg, ws, hws, hl⟩ : (spG W).dom c ∧ ∃ ws, chain 720 (places c) = some ws ∧ ws.length ≤ 720 := hd
  have sz : sizeLine = 2 ^ 24 := rfl
  refine ws_cons (ws_setN 1 (en_lst ea_nil) (fun pl => ?_) scYield.nd)
  have hit : (spG W).items c = ws.map (item W) := by
    show ((chain 720 (places c)).getD []).map (item W) = _
    rw [hws]
    rfl
  refine ws_cons (ws_forG Fg hr c hg (ea_cons (ev_name 0) ea_nil) (Or := [(pl, .lst [])]) (List.Perm.refl _) (fun its E => ∃ k qs z, k ≤ ws.length ∧ its = (ws.drop k).map (item W) ∧ qs.length = k ∧ E = ⟨[some (.d (dL c)), some (.raw (.ref pl)), z], (pl, .lst (rawL qs)) :: Wv W qs (ws.take k)⟩) ⟨0, [], _, Nat.zero_le _, by rw [hit]; rfl, rfl, rfl⟩ ?_ ?_ (fun _ _ h => h))
  · rintro it its G O r N ⟨k, qs, z, hk, h1, h2, e⟩ hit'
    cases e
    by_cases hkl : k < ws.length
    · rw [List.drop_eq_getElem_cons hkl] at h1
      injection h1 with h1 h3
      subst h1 h3
      obtain ⟨q, e1, e2⟩ := hit'
      subst e1 e2
      refine ⟨_, _, wg_name 2 scYield.nd, ?_⟩
      refine ws_cons (ws_expr (ev_append 1 (ev_name 1) (ev_name 2) rfl rfl ?_) ?_)
      · rw [List.length_map, sz]
        omega
      have hperm : List.Perm ((([(q, weav W ws[k])] ++ ((pl, OO.lst (rawL qs)) :: Wv W qs (ws.take k)))).set 1 (pl, .lst (rawL qs ++ [.raw (.ref q)]))) ((pl, .lst (rawL (qs ++ [q]))) :: Wv W (qs ++ [q]) (ws.take (k + 1))) := by
        have e1 : rawL (qs ++ [q]) = rawL qs ++ [.raw (.ref q)] := by
          show (qs ++ [q]).map _ = _
          rw [List.map_append]
          rfl
        have e2 : Wv W (qs ++ [q]) (ws.take (k + 1)) = Wv W qs (ws.take k) ++ [(q, weav W ws[k])] := by
          show ((qs ++ [q]).zip (ws.take (k + 1))).map _ = _
          rw [List.take_add_one, List.getElem?_eq_getElem hkl]
          show ((qs ++ [q]).zip (ws.take k ++ [ws[k]])).map _ = _
          rw [List.zip_append (by rw [List.length_take]; omega), List.map_append]
          rfl
        rw [e1, e2]
        show List.Perm ((q, weav W ws[k]) :: (pl, OO.lst (rawL qs ++ [.raw (.ref q)])) :: Wv W qs (ws.take k)) _
        refine (List.Perm.swap _ _ _).trans (List.Perm.cons _ ?_)
        exact List.perm_append_comm (l₁ := [(q, weav W ws[k])])
      refine ws_perm hperm ?_
      refine ws_cons (ws_ifF (et_gt (ev_lenL T.len (ev_name 1) (lsat_own 0)) ev_int) (ws_nil (ws_nil ⟨k + 1, qs ++ [q], _, hkl, rfl, by rw [List.length_append, h2]; rfl, rfl⟩)) ?_)
      rw [List.length_map, List.length_append, h2]
      exact decide_eq_false (by simp only [List.length_singleton]; omega)
    · rw [List.drop_eq_nil_of_le (by omega)] at h1
      cases h1
  · rintro G O Og ⟨k, qs, z, hk, h1, h2, e⟩ hfin
    cases e
    have hfin : Og = [] := hfin
    subst hfin
    have hk' : k = ws.length := by
      by_cases hkl : k < ws.length
      · rw [List.drop_eq_getElem_cons hkl] at h1
        cases h1
      · omega
    subst hk'
    refine ws_cons (ws_ret (ev_name 1) ⟨pl, qs, ws, hws, h2, rfl, ?_⟩)
    rw [List.take_length]
    rfl
end
end TT

/-! k45: _law_right. -/
namespace TT
open PySem PySem.Spec PyProof.Rows L2 Lx
def dW (W : Addr) (w : List Nat) : D := .ins W [("turns", .tupS (w.map dN)), ("many", .int w.length)]
def tot (c : List Nat) : Nat := c.sum
def multi (c : List Nat) : Nat := c.foldl (fun m n => m / fct n) (fct (tot c))
/-- what is right of the weavings of the counts c -/
structure Right (c : List Nat) (ws : List (List Nat)) : Prop where
  cl : c.length ≤ 4
  ct : tot c ≤ 8
  num : ws.length = multi c
  len : ∀ w ∈ ws, w.length = tot c
  cnt : ∀ w ∈ ws, ∀ k, k < c.length → w.count k = c.getD k 0
  up : ∀ k, k + 1 < ws.length → lessL (ws.getD k []) (ws.getD (k + 1) []) = true
def spRight (W : Addr) : FSp (List (List Nat) × List Nat) where
  dom := fun i => Right i.2 i.1
  args := fun i => [.d (.lst (i.1.map (dW W))), .d (dL i.2)]
  O0 := fun _ => []
  post := fun i r O' => r = .d (.bl true) ∧ O' = []
theorem lcAcc_none (g : Nat → En) : ∀ n, lcAcc (fun _ => false) g n = []
  | 0 => rfl
  | n + 1 => by rw [lcAcc_succ, if_neg Bool.false_ne_true, lcAcc_none g n]
theorem sum_le {c : List Nat} {k : Nat} (h : k < c.length) : c.getD k 0 ≤ tot c := by
  unfold tot
  induction c generalizing k with
  | nil => simp at h
  | cons a c ih =>
    cases k with
    | zero => simp
    | succ k =>
      have := ih (k := k) (by simpa using h)
      simp only [List.getD_cons_succ, List.sum_cons]
      omega
theorem getDn {c : List Nat} {k : Nat} (h : k < c.length) : (c.map dN).getD k .non = .int (c.getD k 0 : Nat) := by
  rw [List.getD_eq_getElem?_getD, List.getElem?_map, List.getElem?_eq_getElem h, List.getD_eq_getElem?_getD, List.getElem?_eq_getElem h]
  rfl
theorem sum_cast (c : List Nat) : (c.map fun n : Nat => (n : Int)).sum = ((tot c : Nat) : Int) := by
  unfold tot
  induction c with
  | nil => rfl
  | cons a c ih => rw [List.map_cons, List.sum_cons, List.sum_cons, ih, Int.natCast_add]
theorem lcAcc_ints (c : List Nat) (n : Nat) (hn : n ≤ c.length) : lcAcc (fun _ => true) (fun k => .d (.int (c.getD k 0 : Nat))) n = ((c.take n).map dN).map En.d := by
  induction n with
  | zero => rfl
  | succ n ih =>
    rw [lcAcc_succ, if_pos rfl, ih (by omega), List.take_add_one, List.getElem?_eq_getElem (by omega), List.map_append, List.map_append, List.getD_eq_getElem?_getD, List.getElem?_eq_getElem (by omega)]
    rfl
theorem fct_le {n : Nat} (h : n ≤ 8) : 0 < fct n ∧ fct n ≤ 40320 := by
  have : ∀ m, m ≤ 8 → 0 < fct m ∧ fct m ≤ 40320 := by decide
  exact this n h
theorem count_cast (w : List Nat) (k : Nat) : (w.map fun n : Nat => (n : Int)).count (k : Int) = w.count k := by
  induction w with
  | nil => rfl
  | cons a w ih =>
    rw [List.map_cons, List.count_cons, List.count_cons, ih]
    congr 1
    by_cases h : a = k
    · subst h
      simp
    · have h' : ¬ ((a : Int) = (k : Int)) := by omega
      simp [h, h']
section
variable {P : Program} {w : World} {K : PySem.W.Frag} {mg : Str → Option Value} {base : Heap} {f W : Addr} {fd : FuncData}
theorem ok_right (F : FnT K "_law_right" sRight f fd) (T : Facts mg) (C : CF K mg W) (Fi : Fn P w K mg base CX0 1 "_law_is_int" ["_law_thing"] (spIsInt.sp K)) (Fp : Fn P w K mg base CX0 1 "_law_product" ["_law_many"] (spProd.sp K)) (Fl : Fn P w K mg base CX0 1 "_law_less" ["_law_first", "_law_second"] (spLess.sp K)) :
    FnOk P w K mg base CX0 2 f fd ["_law_found", "_law_counts_here"] ((spRight W).sp K) := by
  refine fn_ok0 F scRight (fun _ _ => rfl) fun cdv A outer s H EX hr i hd => ?_
  obtain ⟨ws, c⟩ := i
  have R : Right c ws := hd
  have sz : sizeLine = 2 ^ 24 := rfl
  have cl := R.cl
  have ct := R.ct
  have ce : ∀ k, k < c.length → c.getD k 0 ≤ 8 := fun k hk => Nat.le_trans (sum_le hk) ct
  show WSs _ _ _ ⟨[some (.d (.lst (ws.map (dW W)))), some (.d (dL c)), none, none, none, none, none, none, none, none], []⟩
  -- the total
  have e0 : ∀ (X : Cx) (hN : X.N = nRight) (hs : X.mg = mg) (hc : X.calm = true), True := fun _ _ _ _ => trivial
  refine ws_cons (ws_set (r := .d (.int (tot c : Nat))) 2 (EV.to (ev_sum (ns := c.map fun n : Nat => (n : Int)) T.sum (EN.lst (ds := c.map dN) (EN.toL (en_lc (iw_list (ev_name 1)) (fun _ => []) (fun _ => true) (fun k => .d (.int (c.getD k 0 : Nat))) blkR0 scRight.nd rfl (fun _ _ _ => trivial) (by rw [List.length_map, sz]; omega) (fun k hk => lcturn _ _ (fun s H Ca cl fp => wgn_name 7 scRight.nd) (fun s H Ca cl fp => ets_nil) (fun _ s H Ca cl fp => EV.to (ev_intI T.int (EV.to (r' := .d (.int (c.getD k 0 : Nat))) (ev_name (r := .d ((c.map dN).getD k .non)) 7) ?_)) rfl) (fun z => nomatch z))) ?_)) ?_) ?_) ?_ scRight.nd)
  · rw [getDn (by simpa using hk)]
  · rw [List.length_map, lcAcc_ints c c.length (Nat.le_refl _), List.take_length]
  · have e : (c.map fun n : Nat => (n : Int)).map (fun n => En.d (.int n)) = (c.map dN).map En.d := by
      rw [List.map_map, List.map_map]
      rfl
    rw [e]
    exact lsat_d
  · rw [sum_cast]
  refine ws_cons (ws_set 3 (ev_call Fp hr (tot c) ct (ea_cons (ev_name 2) ea_nil) (Or := []) (List.Perm.refl _) (fun _ _ z => z)) ?_ scRight.nd)
  refine ws_cons (ws_for (iw_list (ev_name 1)) (fun k E => ∃ z, E = ⟨[some (.d (.lst (ws.map (dW W)))), some (.d (dL c)), some (.d (.int (tot c : Nat))), some (.d (.int ((c.take k).foldl (fun m n => m / fct n) (fct (tot c)) : Nat))), z, none, none, none, none, none], []⟩) ⟨_, rfl⟩ (fun _ _ _ _ => trivial) .never (fun k G O hk hI => ?_) (fun E hI => ?_))
  · obtain ⟨z, e⟩ := hI
    cases e
    have hk' : k < c.length := by simpa using hk
    have hf := fct_le (ce k hk')
    rw [getDn hk']
    refine ⟨_, _, wg_name 4 scRight.nd, ?_⟩
    refine ws_cons (ws_set 3 (EV.to (ev_fdiv (ev_name 3) (ev_call Fp hr (c.getD k 0) (ce k hk') (ea_cons (ev_name 4) ea_nil) (Or := []) (List.Perm.refl _) (fun _ _ z => z)) ⟨by omega, by omega⟩) (r' := .d (.int ((c.take (k + 1)).foldl (fun m n => m / fct n) (fct (tot c)) : Nat))) ?_) (ws_nil ⟨_, rfl⟩) scRight.nd)
    rw [List.take_add_one, List.getElem?_eq_getElem hk', List.foldl_append]
    show _ = En.d (.int ((_ / fct c[k] : Nat) : Int))
    rw [List.getD_eq_getElem?_getD, List.getElem?_eq_getElem hk', Int.natCast_ediv]
    rfl
  obtain ⟨z, e⟩ := hI
  subst e
  refine ws_cons (ws_ifF (et_neI (ev_lenL T.len (ev_name 0) lsat_d) (ev_name 3)) (ws_nil ?_) ?_)
  rotate_left
  · rw [List.length_map, List.length_map, List.length_map, R.num, List.take_length]
    show (!decide (((multi c : Nat) : Int) = ((multi c : Nat) : Int))) = false
    rw [decide_eq_true rfl]
    rfl
  refine ws_cons (ws_set 5 ev_non ?_ scRight.nd)
  refine ws_cons (ws_for (iw_list (ev_name 0)) (fun k E => ∃ m z y, E = ⟨[some (.d (.lst (ws.map (dW W)))), some (.d (dL c)), some (.d (.int (tot c : Nat))), some m, z, some (.d (if k = 0 then .non else .tupS ((ws.getD (k - 1) []).map dN))), y, none, none, none], []⟩) ⟨_, _, _, rfl⟩ (fun _ _ _ _ => trivial) .never (fun k G O hk hI => ?_) (fun E hI => ?_))
  · obtain ⟨m, z, y, e⟩ := hI
    cases e
    have hk' : k < ws.length := by simpa using hk
    have ed : (ws.map (dW W)).getD k .non = dW W (ws.getD k []) := by
      rw [List.getD_eq_getElem?_getD, List.getElem?_map, List.getElem?_eq_getElem hk', List.getD_eq_getElem?_getD, List.getElem?_eq_getElem hk']
      rfl
    rw [ed]
    have hmem : ws.getD k [] ∈ ws := by
      rw [List.getD_eq_getElem?_getD, List.getElem?_eq_getElem hk']
      exact List.getElem_mem _
    generalize hw : ws.getD k [] = v at hmem
    have vl := R.len v hmem
    have vc := R.cnt v hmem
    refine ⟨_, _, wg_name 6 scRight.nd, ?_⟩
    refine ws_cons (ws_ifF (et_or (c := false) (d := false) (ET.to (et_not (c := true) (et_val (ev_isiC T.isi (ev_name 6) (ev_glob C.mgW fun S => ⟨.ref W, rfl, rfl⟩) insat_d C.isi C.one))) rfl) (fun _ => ET.to (et_not (c := true) (et_val (ev_isi (n := "tuple") (d := .tupS (v.map dN)) T.isi (ev_fld (ev_name 6) insat_d C.cls C.turns rfl) (ev_ty T.tuple (by decide +kernel)) (kit_tuple "tuple" (by decide)) (by show "tuple" ≠ "?"; decide) (fun _ z => nomatch z)))) rfl) (fun z => nomatch z)) (ws_nil ?_))
    have tW : ∀ {X : Cx} {G : List (Option En)} {O : List OE} {e : Expr} {q : Pos}, X.K = K → EV X e ⟨G, O⟩ (.d (dW W v)) O → attributeBase e "turns" X.env (eval e X.env) = eval e X.env → EV X (.Attribute e "turns" q) ⟨G, O⟩ (.d (.tupS (v.map dN))) O := fun hK h hb => ev_fld h insat_d (by rw [hK]; exact C.cls) (by rw [hK]; exact C.turns) rfl hb
    -- the length, and ints alone
    refine ws_cons (ws_ifF (et_or (c := false) (d := false) (ET.to (et_neI (ev_lenT T.len (ev_tupW (tW rfl (ev_name 6) rfl))) (ev_name 2)) ?_) (fun _ => ET.to (et_gt (ev_lenL T.len (EN.lst (ds := []) (EN.toL (en_lc (iw_tup (ev_tupW (tW rfl (ev_name 6) rfl))) (fun _ => []) (fun _ => false) (fun _ => .d .non) blkR1 scRight.nd rfl (fun _ _ _ => trivial) ?_ (fun j hj => lcturn _ _ (fun s H Ca cl fp => wgn_name 8 scRight.nd) (fun s H Ca cl fp => ets_one (ET.to (et_not (et_val (ev_call Fi hr ((v.map dN).getD j .non) ?_ (ea_cons (ev_name 8) ea_nil) (Or := []) (List.Perm.refl _) (fun _ _ z => z)))) ?_)) (fun z => nomatch z) (fun _ => rfl))) ?_)) lsat_d) ev_int) ?_) (fun z => nomatch z)) (ws_nil ?_))
    · rw [List.length_map, vl, decide_eq_true rfl]
      rfl
    · rw [List.length_map, vl, sz]
      omega
    · rw [getDn (by simpa using hj)]
      trivial
    · rw [getDn (by simpa using hj)]
      rfl
    · rw [lcAcc_none]
      rfl
    · rfl
    -- the counts
    have vn : (v.map fun n : Nat => (n : Int)).map D.int = v.map dN := by
      rw [List.map_map]
      rfl
    refine ws_cons (ws_ifF (et_gt (ev_lenL T.len (EN.lst (ds := []) (EN.toL (en_lc (iw_rangeN (n := c.length) T.range (EV.to (ev_lenL T.len (ev_name 1) lsat_d) ?_) ?_) (fun _ => []) (fun _ => false) (fun _ => .d .non) blkR2 scRight.nd rfl (fun _ _ _ => trivial) ?_ (fun j hj => lcturn _ _ (fun s H Ca cl fp => wgn_name 9 scRight.nd) (fun s H Ca cl fp => ets_one (ET.to (et_neI (ev_tcount (ns := v.map fun n : Nat => (n : Int)) (EV.to (tW rfl (ev_name 6) rfl) ?_) (ev_name 9)) (ev_ixL (ev_name 1) (ev_name 9) lsat_d (getLi (k := j) rfl hj))) ?_)) (fun z => nomatch z) (fun _ => rfl))) ?_)) lsat_d) ev_int) (ws_nil ?_))
    · rw [List.length_map, List.length_map]
    · omega
    · rw [sz]
      omega
    · rw [vn]
    · rw [count_cast, vc j hj, decide_eq_true rfl]
      rfl
    · rw [lcAcc_none]
      rfl
    -- above the one before
    refine ws_cons (ws_ifF (et_and (c := !isNon (if k = 0 then .non else .tupS ((ws.getD (k - 1) []).map dN))) (d := false) (et_notN (ev_name 5) ev_non) (fun hz => ?_) (fun _ => rfl)) (ws_nil ?_) (by rw [Bool.and_false]))
    · cases k with
      | zero => cases hz
      | succ k =>
        have hup := R.up k hk'
        have hw' : ws.getD (k + 1) [] = v := hw
        rw [hw'] at hup
        have hm1 : ws.getD k [] ∈ ws := by
          rw [List.getD_eq_getElem?_getD, List.getElem?_eq_getElem (by omega : k < ws.length)]
          exact List.getElem_mem _
        have hdom : spLess.dom (ws.getD k [], v, D.tupS ((ws.getD k []).map dN), D.tupS (v.map dN)) := ⟨by show (ws.getD k []).length = v.length; rw [vl, R.len _ hm1], by show (ws.getD k []).length ≤ 8; rw [R.len _ hm1]; exact ct, rfl, rfl⟩
        refine ET.to (b := !lessL (ws.getD k []) v) ?_ ?_
        · exact et_not (et_val (ev_call Fl hr (ws.getD k [], v, D.tupS ((ws.getD k []).map dN), D.tupS (v.map dN)) hdom (ea_cons (ev_name 5) (ea_cons (tW rfl (ev_name 6) rfl) ea_nil)) (Or := []) (List.Perm.refl _) (fun _ _ z => z)))
        · rw [hup]
          rfl
    refine ws_cons (ws_set (r := .d (.tupS (v.map dN))) 5 (tW rfl (ev_name 6) rfl) (ws_nil ⟨m, z, some (.d (dW W v)), ?_⟩) scRight.nd)
    show _ = Env.mk [_, _, _, _, _, some (.d (if k + 1 = 0 then _ else .tupS ((ws.getD k []).map dN))), _, _, _, _] _
    rw [hw, if_neg (Nat.succ_ne_zero k)]
    rfl
  · obtain ⟨m, z, y, e⟩ := hI
    subst e
    exact ws_cons (ws_ret ev_bl ⟨rfl, rfl⟩)
end
end TT

/-! k45: _law_counts. -/
namespace TT
open PySem PySem.Spec PyProof.Rows L2 Lx
abbrev sCounts : Stmt := top 30
abbrev nCounts : List Str := ["_law_state_here", "_law_result", "_law_left", "_law_first", "_law_at", "_law_k", "_law_second"]
theorem scCounts : FnScope nCounts ["_law_state_here"] (defScope sCounts) := ⟨rfl, rfl, rfl, by decide +kernel, rfl, by decide +kernel, by decide +kernel⟩
theorem blkC : BlkOk nCounts (defScope sCounts) (cmpSc sCounts 0) [("_law_k", 5)] := ⟨rfl, by decide +kernel, by decide +kernel, by decide +kernel, by decide +kernel⟩
def mk1 (n a f g : Nat) : List Nat := ((List.replicate n 0).set (if a = n then a - 1 else a) f).take 2 ++ [g] ++ ((List.replicate n 0).set (if a = n then a - 1 else a) f).drop 3
def cntL (s0 : DS) : Nat → List Nat × Nat × DS
  | 0 => ([], 6, s0)
  | k + 1 => ((cntL s0 k).1 ++ [min (cntL s0 k).2.1 (3 - (drawN (cntL s0 k).2.2 4).1)], (cntL s0 k).2.1 - min (cntL s0 k).2.1 (3 - (drawN (cntL s0 k).2.2 4).1), (drawN (cntL s0 k).2.2 4).2)
def cntA (s : DS) : List Nat × DS :=
  let a := drawN s 9
  let b := drawN a.2 4
  let c := drawN b.2 2
  let d := drawN c.2 (9 - a.1)
  (mk1 (4 - c.1) b.1 a.1 d.1, d.2)
def cntB (s : DS) : List Nat × DS := ((cntL (drawN s 5).2 (4 - (drawN s 5).1)).1, (cntL (drawN s 5).2 (4 - (drawN s 5).1)).2.2)
def countsF (s : DS) : List Nat × DS := if (drawN s 4).1 = 3 then cntA (drawN s 4).2 else cntB (drawN s 4).2
theorem cntL_ok (s0 : DS) : ∀ k, (cntL s0 k).1.length = k ∧ (∀ x ∈ (cntL s0 k).1, x ≤ 3) ∧ (cntL s0 k).1.sum + (cntL s0 k).2.1 = 6
  | 0 => ⟨rfl, by simp [cntL], rfl⟩
  | k + 1 => by
    obtain ⟨h1, h2, h3⟩ := cntL_ok s0 k
    refine ⟨?_, fun x hx => ?_, ?_⟩
    · show (_ ++ [_]).length = _
      rw [List.length_append, h1]
      rfl
    · rcases List.mem_append.mp hx with h | h
      · exact h2 x h
      · have := List.mem_singleton.mp h
        omega
    · show (_ ++ [_]).sum + _ = 6
      rw [List.sum_append]
      simp only [List.sum_cons, List.sum_nil]
      show _ + _ + ((cntL s0 k).2.1 - _) = 6
      omega
def spCounts : FSp (Addr × DS) where
  dom := fun _ => True
  args := fun i => [.raw (.ref i.1)]
  O0 := fun i => [(i.1, i.2.o)]
  post := fun i r O' => r = .d (dL (countsF i.2).1) ∧ O' = [(i.1, (countsF i.2).2.o)]
section
variable {P : Program} {w : World} {K : PySem.W.Frag} {mg : Str → Option Value} {base : Heap} {f W : Addr} {fd : FuncData}
theorem lcAcc_zero (n : Nat) : lcAcc (fun _ => true) (fun _ => .d (.int 0)) n = ((List.replicate n 0).map dN).map En.d := by
  rw [lcAcc_rep, List.map_replicate, List.map_replicate]
  rfl
theorem ok_counts (F : FnT K "_law_counts" sCounts f fd) (T : Facts mg) (Fd : Fn P w K mg base CX0 1 "_law_draw" pDraw (spDraw.sp K)) : FnOk P w K mg base CX0 2 f fd ["_law_state_here"] (spCounts.sp K) := by
  refine fn_ok0 F scCounts (fun _ _ => rfl) fun cdv A outer st H EX hr i _ => ?_
  obtain ⟨q, s⟩ := i
  have sz : sizeLine = 2 ^ 24 := rfl
  show WSs _ _ _ ⟨[some (.raw (.ref q)), none, none, none, none, none, none], [(q, s.o)]⟩
  refine ws_cons (ws_setN 1 (en_lst ea_nil) (fun pl => ?_) scCounts.nd)
  refine ws_perm (O2 := [(q, s.o), (pl, .lst [])]) (List.Perm.swap _ _ _) ?_
  refine ws_cons (ws_set 2 ev_int ?_ scCounts.nd)
  have h4 := drawN_lt (s := s) (m := 4) (by decide)
  generalize h0 : drawN s 4 = a at h4
  have ec : countsF s = if a.1 = 3 then cntA a.2 else cntB a.2 := by
    unfold countsF
    rw [h0]
  refine ws_cons (ws_if (et_eqI (EV.cast (O'' := [(q, a.2.o), (pl, .lst [])]) (ev_drawN (s := s) (m := 4) Fd hr (ea_cons (ev_name 0) (ea_cons ev_int ea_nil)) (by decide) (by decide) (by decide)) (by rw [h0]) (by rw [h0])) ev_int) (fun h => ?_) (fun h => ws_nil ?_))
  · have h3 : a.1 = 3 := by
      simp only [decide_eq_true_eq] at h
      omega
    rw [if_pos h3] at ec
    clear h
    generalize a.2 = s1 at ec
    have l1 := drawN_lt (s := s1) (m := 9) (by decide)
    generalize e1 : drawN s1 9 = b at l1
    have l2 := drawN_lt (s := b.2) (m := 4) (by decide)
    generalize e2 : drawN b.2 4 = c at l2
    have l3 := drawN_lt (s := c.2) (m := 2) (by decide)
    generalize e3 : drawN c.2 2 = d at l3
    have l4 := drawN_lt (s := d.2) (m := 9 - b.1) (by omega)
    generalize e4 : drawN d.2 (9 - b.1) = g at l4
    have ea : cntA s1 = (mk1 (4 - d.1) c.1 b.1 g.1, g.2) := by
      unfold cntA
      simp only [e1, e2, e3, e4]
    refine ws_cons (ws_set 3 (EV.cast (O'' := [(q, b.2.o), (pl, .lst [])]) (ev_drawN (s := s1) (m := 9) Fd hr (ea_cons (ev_name 0) (ea_cons ev_int ea_nil)) (by decide) (by decide) (by decide)) (by rw [e1]) (by rw [e1])) ?_ scCounts.nd)
    refine ws_cons (ws_set 4 (EV.cast (O'' := [(q, c.2.o), (pl, .lst [])]) (ev_drawN (s := b.2) (m := 4) Fd hr (ea_cons (ev_name 0) (ea_cons ev_int ea_nil)) (by decide) (by decide) (by decide)) (by rw [e2]) (by rw [e2])) ?_ scCounts.nd)
    refine ws_cons (ws_setLc (i := 1) (iw_rangeN (n := 4 - d.1) T.range (EV.to (ev_sub ev_int (EV.cast (O'' := [(q, d.2.o), (pl, .lst [])]) (ev_drawN (s := c.2) (m := 2) Fd hr (ea_cons (ev_name 0) (ea_cons ev_int ea_nil)) (by decide) (by decide) (by decide)) (by rw [e3]) (by rw [e3]))) ?_) ?_) (fun _ => [(q, d.2.o), (pl, .lst [])]) (fun _ => true) (fun _ => .d (.int 0)) blkC scCounts.nd rfl (fun _ _ _ => trivial) ?_ (fun k hk => lcturn _ _ (fun s H Ca cl fp => wgn_name 5 scCounts.nd) (fun s H Ca cl fp => ets_nil) (fun _ s H Ca cl fp => ev_int) (fun z => nomatch z)) (fun pr => ?_))
    · show En.d (.int ((4 : Int) - ((d.1 : Nat) : Int))) = En.d (.int ((4 - d.1 : Nat) : Int))
      rw [Int.ofNat_sub (by omega)]
      rfl
    · omega
    · rw [sz]
      omega
    rw [lcAcc_zero]
    refine ws_perm (O2 := [(q, d.2.o), (pr, .lst (((List.replicate (4 - d.1) 0).map dN).map En.d)), (pl, .lst [])]) (List.Perm.swap _ _ _) ?_
    refine ws_drop (O2 := [(q, d.2.o), (pr, .lst (((List.replicate (4 - d.1) 0).map dN).map En.d))]) (List.sublist_append_left _ [(pl, OO.lst [])]) ?_
    refine ws_cons (ws_set 6 (EV.cast (O'' := [(q, g.2.o), (pr, .lst (((List.replicate (4 - d.1) 0).map dN).map En.d))]) (ev_drawN (s := d.2) (m := 9 - b.1) Fd hr (ea_cons (ev_name 0) (ea_cons (EV.to (ev_sub ev_int (ev_name 3)) ?_) ea_nil)) (by decide) (by omega) (by omega)) (by rw [e4]) (by rw [e4])) ?_ scCounts.nd)
    · show En.d (.int ((9 : Int) - ((b.1 : Nat) : Int))) = En.d (.int ((9 - b.1 : Nat) : Int))
      rw [Int.ofNat_sub (by omega)]
      rfl
    have hln : (((List.replicate (4 - d.1) 0).map dN).map En.d).length = 4 - d.1 := by rw [List.length_map, List.length_map, List.length_replicate]
    refine ws_cons (ws_setitem (n := if c.1 = 4 - d.1 then c.1 - 1 else c.1) 1 (ev_name 3) (ev_name 1) (ev_sub (ev_name 4) (ev_intB T.int (ev_eqI (ev_name 4) (ev_lenL T.len (ev_name 1) (lsat_own 1))))) rfl ?_ ?_)
    · rw [hln]
      unfold ixN
      by_cases hz : c.1 = 4 - d.1
      · rw [if_pos hz, decide_eq_true (by omega), if_pos rfl, if_pos (by omega), if_pos (by omega)]
        congr 1
        omega
      · rw [if_neg hz, decide_eq_false (by omega), if_neg Bool.false_ne_true, if_pos (by omega), if_pos (by omega)]
        congr 1
    have hset : ([(q, OO.lst [.d (sD g.2.sc), .d (.int g.2.ps), .d (.int g.2.vl), .d (.int g.2.kd), .d (.int g.2.ct)]), (pr, OO.lst (((List.replicate (4 - d.1) 0).map dN).map En.d))].set 1 (pr, OO.lst ((((List.replicate (4 - d.1) 0).map dN).map En.d).set (if c.1 = 4 - d.1 then c.1 - 1 else c.1) (.d (.int (b.1 : Nat)))))) = [(q, g.2.o), (pr, .lst ((((List.replicate (4 - d.1) 0).set (if c.1 = 4 - d.1 then c.1 - 1 else c.1) b.1).map dN).map En.d))] := by
      show [(q, _), (pr, OO.lst _)] = _
      rw [List.map_set, List.map_set]
      rfl
    refine ws_weak (fun _ _ _ g => by rw [hset] at g; exact g) ?_
    refine ws_cons (ws_ret_drop (O2 := [(q, g.2.o)]) (EN.lst (ds := (mk1 (4 - d.1) c.1 b.1 g.1).map dN) (EN.toL (en_cat (EN.lst (ds := (((List.replicate (4 - d.1) 0).set (if c.1 = 4 - d.1 then c.1 - 1 else c.1) b.1).take 2 ++ [g.1]).map dN) (EN.toL (en_cat
        (EN.lst (ds := ((List.replicate (4 - d.1) 0).set (if c.1 = 4 - d.1 then c.1 - 1 else c.1) b.1).take 2 |>.map dN) (EN.toL (en_slice (i := none) (j := some ((2 : Nat) : Int)) (ev_name 1) rfl ev_int (lsat_own 1)) (by rw [cutD_take, ← List.map_take, ← List.map_take])))
        (EN.lst (ds := [dN g.1]) (en_lst (ea_cons (ev_name 6) ea_nil))) lsx_d lsx_d ?_) ?_))
        (EN.lst (ds := ((List.replicate (4 - d.1) 0).set (if c.1 = 4 - d.1 then c.1 - 1 else c.1) b.1).drop 3 |>.map dN) (EN.toL (en_slice (i := some ((3 : Nat) : Int)) (j := none) (ev_name 1) ev_int rfl (lsat_own 1)) (by rw [cutD_drop, ← List.map_drop, ← List.map_drop]))) lsx_d lsx_d ?_) ?_)) (List.sublist_append_left [(q, g.2.o)] _) ?_)
    · rw [List.length_map, List.length_map, List.length_take, sz]
      show min _ _ + 1 ≤ _
      omega
    · rw [List.map_append, List.map_append]
      rfl
    · simp only [List.length_map, List.length_append, List.length_take, List.length_drop, List.length_set, List.length_replicate, sz, List.length_singleton]
      omega
    · unfold mk1
      rw [← List.map_append, ← List.map_append]
    · refine ⟨?_, ?_⟩
      · show _ = En.d (dL (countsF s).1)
        rw [ec, ea]
        rfl
      · show _ = [(q, (countsF s).2.o)]
        rw [ec, ea]
  · have h3 : ¬ a.1 = 3 := by
      simp only [decide_eq_false_iff_not] at h
      omega
    rw [if_neg h3] at ec
    clear h
    generalize a.2 = s1 at ec
    have l1 := drawN_lt (s := s1) (m := 5) (by decide)
    generalize e1 : drawN s1 5 = b at l1
    have ea : cntB s1 = ((cntL b.2 (4 - b.1)).1, (cntL b.2 (4 - b.1)).2.2) := by
      unfold cntB
      rw [e1]
    refine ws_cons (ws_for (iw_rangeN (n := 4 - b.1) T.range (EV.to (ev_sub ev_int (EV.cast (O'' := [(q, b.2.o), (pl, .lst [])]) (ev_drawN (s := s1) (m := 5) Fd hr (ea_cons (ev_name 0) (ea_cons ev_int ea_nil)) (by decide) (by decide) (by decide)) (by rw [e1]) (by rw [e1]))) ?_) ?_)
      (fun k E => ∃ z, E = ⟨[some (.raw (.ref q)), some (.raw (.ref pl)), some (.d (.int ((cntL b.2 k).2.1 : Nat))), none, none, z, none], [(q, (cntL b.2 k).2.2.o), (pl, .lst (((cntL b.2 k).1.map dN).map En.d))]⟩) ⟨_, rfl⟩ (fun _ _ _ _ => trivial) .never (fun k G O hk hI => ?_) (fun E hI => ?_))
    · show En.d (.int ((4 : Int) - ((b.1 : Nat) : Int))) = En.d (.int ((4 - b.1 : Nat) : Int))
      rw [Int.ofNat_sub (by omega)]
      rfl
    · omega
    · obtain ⟨z, e⟩ := hI
      cases e
      refine ⟨_, _, wg_name 5 scCounts.nd, ?_⟩
      obtain ⟨p1, p2, p3⟩ := cntL_ok b.2 k
      have es : cntL b.2 (k + 1) = ((cntL b.2 k).1 ++ [min (cntL b.2 k).2.1 (3 - (drawN (cntL b.2 k).2.2 4).1)], (cntL b.2 k).2.1 - min (cntL b.2 k).2.1 (3 - (drawN (cntL b.2 k).2.2 4).1), (drawN (cntL b.2 k).2.2 4).2) := rfl
      generalize cntL b.2 k = t at p1 p2 p3 es
      obtain ⟨res, left, s2⟩ := t
      have p1 : res.length = k := p1
      have l2 := drawN_lt (s := s2) (m := 4) (by decide)
      rw [es]
      show WSs _ _ _ ⟨[some (.raw (.ref q)), some (.raw (.ref pl)), some (.d (.int (left : Nat))), none, none, some (.d (.int (k : Nat))), none], [(q, s2.o), (pl, .lst ((res.map dN).map En.d))]⟩
      generalize e2 : drawN s2 4 = c at l2
      have em : En.d (.int (if ((3 : Int) - ((c.1 : Nat) : Int)) < ((left : Nat) : Int) then (3 : Int) - ((c.1 : Nat) : Int) else ((left : Nat) : Int))) = En.d (dN (min left (3 - c.1))) := by
        show En.d (.int _) = En.d (.int _)
        congr 2
        split <;> omega
      refine ws_cons (ws_expr (ev_append 1 (ev_name 1) (EV.cast (r' := .d (dN (min left (3 - c.1)))) (O'' := [(q, c.2.o), (pl, .lst ((res.map dN).map En.d))]) (ev_min2 T.min (ev_name 2) (ev_sub ev_int (ev_drawN (s := s2) (m := 4) Fd hr (ea_cons (ev_name 0) (ea_cons ev_int ea_nil)) (by decide) (by decide) (by decide)))) (by rw [e2]; exact em) (by rw [e2])) rfl rfl ?_) ?_)
      · rw [List.length_map, List.length_map, p1, sz]
        omega
      have hset : ([(q, OO.lst [.d (sD c.2.sc), .d (.int c.2.ps), .d (.int c.2.vl), .d (.int c.2.kd), .d (.int c.2.ct)]), (pl, OO.lst ((res.map dN).map En.d))].set 1 (pl, OO.lst ((res.map dN).map En.d ++ [.d (dN (min left (3 - c.1)))]))) = [(q, c.2.o), (pl, .lst (((res ++ [min left (3 - c.1)]).map dN).map En.d))] := by
        show [(q, _), (pl, OO.lst _)] = _
        rw [List.map_append, List.map_append]
        rfl
      refine ws_weak (fun _ _ _ g => by rw [hset] at g; exact g) ?_
      have hix : (res ++ [min left (3 - c.1)]).getD k 0 = min left (3 - c.1) := by
        rw [List.getD_eq_getElem?_getD, List.getElem?_append_right (by omega), p1, Nat.sub_self]
        rfl
      refine ws_cons (ws_set 2 (EV.to (ev_sub (ev_name 2) (ev_ixL (r := .d (.int ((res ++ [min left (3 - c.1)]).getD k 0 : Nat))) (ev_name 1) (ev_name 5) (lsat_own 1) (getLi (k := k) rfl (by rw [List.length_append, p1]; exact Nat.lt_succ_self _)))) (r' := .d (.int ((left - min left (3 - c.1) : Nat) : Int))) ?_) (ws_nil ⟨_, rfl⟩) scCounts.nd)
      rw [hix]
      congr 2
      omega
    · obtain ⟨z, e⟩ := hI
      subst e
      refine ws_perm (O2 := [(pl, .lst (((cntL b.2 (4 - b.1)).1.map dN).map En.d)), (q, (cntL b.2 (4 - b.1)).2.2.o)]) (List.Perm.swap _ _ _) ?_
      refine ws_pub 1 rfl rfl ?_
      refine ws_cons (ws_ret (ev_name 1) ⟨?_, ?_⟩)
      · show _ = En.d (dL (countsF s).1)
        rw [ec, ea]
        rfl
      · show _ = [(q, (countsF s).2.o)]
        rw [ec, ea]
theorem fn_counts (F : FnT K "_law_counts" sCounts f fd) (T : Facts mg) (hm : mg "_law_counts" = some (.ref f)) (Fd : Fn P w K mg base CX0 1 "_law_draw" pDraw (spDraw.sp K)) : Fn P w K mg base CX0 2 "_law_counts" ["_law_state_here"] (spCounts.sp K) := Fn.mk0 F hm (ok_counts F T Fd) fun _ _ _ _ _ _ us h => by
  match us, h with
  | [a], _ => rfl
end
end TT

/-! k45: the plain law: what interleavings gives is right, for all counts that can be drawn. -/
namespace TT
open PySem PySem.Spec PyProof.Rows L2 Lx
def upB : List (List Nat) → Bool
  | a :: b :: r => lessL a b && upB (b :: r)
  | _ => true
def cntOk (w : List Nat) : Nat → List Nat → Bool
  | _, [] => true
  | k, n :: c => (w.count k == n) && cntOk w (k + 1) c
def rightB (c : List Nat) (ws : List (List Nat)) : Bool := Nat.ble (tot c) 8 && (ws.length == multi c) && ws.all (fun w => (w.length == tot c) && cntOk w 0 c) && upB ws
def goodB (c : List Nat) : Bool := match chain 720 (places c) with
  | none => false
  | some ws => Nat.ble (places c).length 8 && Nat.ble ws.length 720 && Nat.ble 1 ws.length && rightB c ws
structure GoodC (c : List Nat) : Prop where
  cl : c.length ≤ 4
  pl : (places c).length ≤ 8
  ex : ∃ ws, chain 720 (places c) = some ws ∧ ws.length ≤ 720 ∧ 0 < ws.length ∧ Right c ws
theorem cntOk_at {w : List Nat} : ∀ {c : List Nat} {j : Nat}, cntOk w j c = true → ∀ k, k < c.length → w.count (j + k) = c.getD k 0
  | [], _, _, k, hk => by simp at hk
  | n :: c, j, h, k, hk => by
    unfold cntOk at h
    rw [Bool.and_eq_true] at h
    cases k with
    | zero => exact eq_of_beq h.1
    | succ k =>
      have := cntOk_at h.2 k (by simpa using hk)
      rw [List.getD_cons_succ, ← this]
      congr 1
      omega
theorem upB_at : ∀ {ws : List (List Nat)}, upB ws = true → ∀ k, k + 1 < ws.length → lessL (ws.getD k []) (ws.getD (k + 1) []) = true
  | [], _, k, hk => by simp at hk
  | [_], _, k, hk => by simp at hk
  | a :: b :: r, h, k, hk => by
    unfold upB at h
    rw [Bool.and_eq_true] at h
    cases k with
    | zero => exact h.1
    | succ k => exact upB_at (ws := b :: r) h.2 k (by simpa using hk)
theorem good_of {c : List Nat} (hl : c.length ≤ 4) (h : goodB c = true) : GoodC c := by
  unfold goodB at h
  cases e : chain 720 (places c) with
  | none => rw [e] at h; cases h
  | some ws =>
    rw [e] at h
    simp only [Bool.and_eq_true, Nat.ble_eq] at h
    obtain ⟨⟨⟨h1, h2⟩, h3⟩, h4⟩ := h
    unfold rightB at h4
    simp only [Bool.and_eq_true, Nat.ble_eq, List.all_eq_true] at h4
    obtain ⟨⟨⟨r1, r2⟩, r3⟩, r4⟩ := h4
    refine ⟨hl, h1, ws, e, h2, h3, hl, r1, eq_of_beq r2, fun w hw => ?_, fun w hw k hk => ?_, upB_at r4⟩
    · have := r3 w hw
      exact eq_of_beq this.1
    · have := cntOk_at (r3 w hw).2 k hk
      rw [Nat.zero_add] at this
      exact this
def rng (n : Nat) : List Nat := List.range n
/-- all that case A can give -/
def famA : List (List Nat) :=
  ((rng 9).flatMap fun f => (rng (9 - f)).flatMap fun g => [[f, g, 0], [f, 0, g], [0, f, g], [f, g, 0, 0], [f, 0, g, 0], [f, 0, 0, g], [0, f, g, 0], [0, f, 0, g], [0, 0, f, g]])
def famB : List (List Nat) := [] :: (((rng 4).map fun a => [a]) ++ ((rng 4).flatMap fun a => (rng 4).map fun b => [a, b]) ++ ((rng 4).flatMap fun a => (rng 4).flatMap fun b => (rng (min 4 (7 - a - b))).map fun c => [a, b, c]) ++
  ((rng 4).flatMap fun a => (rng 4).flatMap fun b => (rng (min 4 (7 - a - b))).flatMap fun c => (rng (min 4 (7 - a - b - c))).map fun d => [a, b, c, d]))
theorem famA_good : famA.all goodB = true := by decide +kernel
theorem famB_good : famB.all goodB = true := by decide +kernel
end TT

namespace TT
open PySem PySem.Spec PyProof.Rows L2 Lx
theorem memA : ∀ n, n < 2 → ∀ a, a < 4 → ∀ f, f < 9 → ∀ g, g < 9 - f → famA.contains (mk1 (n + 3) a f g) = true ∧ famA.contains (mk1 (n + 3) a f g).reverse = true := by decide +kernel
theorem memB2 : ∀ a, a < 4 → ∀ b, b < 4 → a + b ≤ 6 → famB.contains [a, b] = true := by decide +kernel
theorem memB3 : ∀ a, a < 4 → ∀ b, b < 4 → ∀ c, c < 4 → a + b + c ≤ 6 → famB.contains [a, b, c] = true := by decide +kernel
theorem memB4 : ∀ a, a < 4 → ∀ b, b < 4 → ∀ c, c < 4 → ∀ d, d < 4 → a + b + c + d ≤ 6 → famB.contains [a, b, c, d] = true := by decide +kernel
theorem memB1 : ∀ a, a < 4 → famB.contains [a] = true := by decide +kernel
theorem memB {l : List Nat} (hl : l.length ≤ 4) (h3 : ∀ x ∈ l, x ≤ 3) (hs : l.sum ≤ 6) : famB.contains l = true := by
  match l, hl, h3, hs with
  | [], _, _, _ => rfl
  | [a], _, h, _ => exact memB1 a (by have := h a (by simp); omega)
  | [a, b], _, h, hs =>
    simp only [List.sum_cons, List.sum_nil] at hs
    exact memB2 a (by have := h a (by simp); omega) b (by have := h b (by simp); omega) (by omega)
  | [a, b, c], _, h, hs =>
    simp only [List.sum_cons, List.sum_nil] at hs
    exact memB3 a (by have := h a (by simp); omega) b (by have := h b (by simp); omega) c (by have := h c (by simp); omega) (by omega)
  | [a, b, c, d], _, h, hs =>
    simp only [List.sum_cons, List.sum_nil] at hs
    exact memB4 a (by have := h a (by simp); omega) b (by have := h b (by simp); omega) c (by have := h c (by simp); omega) d (by have := h d (by simp); omega) (by omega)
  | _ :: _ :: _ :: _ :: _ :: _, h, _, _ => simp at h
theorem good_famA {c : List Nat} (hl : c.length ≤ 4) (h : famA.contains c = true) : GoodC c := good_of hl (List.all_eq_true.mp famA_good c (List.contains_iff_mem.mp h))
theorem good_famB {c : List Nat} (hl : c.length ≤ 4) (h : famB.contains c = true) : GoodC c := good_of hl (List.all_eq_true.mp famB_good c (List.contains_iff_mem.mp h))
theorem mk1_len {n a f g : Nat} (h : 3 ≤ n) (h' : n ≤ 4) : (mk1 n a f g).length ≤ 4 := by
  unfold mk1
  simp only [List.length_append, List.length_take, List.length_drop, List.length_set, List.length_replicate, List.length_singleton]
  omega
theorem good_counts (s : DS) : GoodC (countsF s).1 ∧ GoodC (countsF s).1.reverse := by
  unfold countsF
  split
  · generalize (drawN s 4).2 = s1
    have l1 := drawN_lt (s := s1) (m := 9) (by decide)
    generalize e1 : drawN s1 9 = b at l1
    have l2 := drawN_lt (s := b.2) (m := 4) (by decide)
    generalize e2 : drawN b.2 4 = c at l2
    have l3 := drawN_lt (s := c.2) (m := 2) (by decide)
    generalize e3 : drawN c.2 2 = d at l3
    have l4 := drawN_lt (s := d.2) (m := 9 - b.1) (by omega)
    generalize e4 : drawN d.2 (9 - b.1) = g at l4
    have ea : cntA s1 = (mk1 (4 - d.1) c.1 b.1 g.1, g.2) := by
      unfold cntA
      simp only [e1, e2, e3, e4]
    rw [ea]
    show GoodC (mk1 (4 - d.1) c.1 b.1 g.1) ∧ GoodC (mk1 (4 - d.1) c.1 b.1 g.1).reverse
    have hn : 4 - d.1 = (1 - d.1) + 3 := by omega
    have hl := mk1_len (n := 4 - d.1) (a := c.1) (f := b.1) (g := g.1) (by omega) (by omega)
    have hm := memA (1 - d.1) (by omega) c.1 l2 b.1 l1 g.1 l4
    rw [← hn] at hm
    exact ⟨good_famA hl hm.1, good_famA (by rw [List.length_reverse]; exact hl) hm.2⟩
  · generalize (drawN s 4).2 = s1
    have l1 := drawN_lt (s := s1) (m := 5) (by decide)
    obtain ⟨h1, h2, h3⟩ := cntL_ok (drawN s1 5).2 (4 - (drawN s1 5).1)
    show GoodC (cntL (drawN s1 5).2 (4 - (drawN s1 5).1)).1 ∧ GoodC (cntL (drawN s1 5).2 (4 - (drawN s1 5).1)).1.reverse
    generalize (cntL (drawN s1 5).2 (4 - (drawN s1 5).1)) = t at h1 h2 h3
    have hl : t.1.length ≤ 4 := by omega
    exact ⟨good_famB hl (memB hl h2 (by omega)), good_famB (by rw [List.length_reverse]; exact hl) (memB (by rw [List.length_reverse]; exact hl) (fun x hx => h2 x (List.mem_reverse.mp hx)) (by rw [List.sum_reverse]; omega))⟩
end TT

/-! k45: law. -/
namespace TT
open PySem PySem.Spec PyProof.Rows L2 Lx
abbrev sLaw : Stmt := top 35
abbrev nLaw : List Str := ["_law_script", "_law_state_here", "_law_counts_here", "_law_handed", "_law_first", "_law_back", "_law_again", "_law_weaving", "_law_told", "_law_at", "_law_one"]
theorem scLaw : FnScope nLaw ["_law_script"] (defScope sLaw) := ⟨rfl, rfl, rfl, by decide +kernel, rfl, by decide +kernel, by decide +kernel⟩
theorem blkL0 : BlkOk nLaw (defScope sLaw) (cmpSc sLaw 0) [("_law_weaving", 7)] := ⟨rfl, by decide +kernel, by decide +kernel, by decide +kernel, by decide +kernel⟩
theorem blkL1 : BlkOk nLaw (defScope sLaw) (cmpSc sLaw 1) [("_law_one", 10)] := ⟨rfl, by decide +kernel, by decide +kernel, by decide +kernel, by decide +kernel⟩
theorem blkL2 : BlkOk nLaw (defScope sLaw) (cmpSc sLaw 2) [("_law_one", 10)] := ⟨rfl, by decide +kernel, by decide +kernel, by decide +kernel, by decide +kernel⟩
def spLaw : FSp (List Int) where
  dom := fun _ => True
  args := fun xs => [.d (.lstF (xs.map .int))]
  O0 := fun _ => []
  post := fun _ r _ => r = .d (.bl true)
theorem asds_wv {K : PySem.W.Frag} {W : Addr} {O Or Os : List OE} (hO : O.Perm (Os ++ Or)) (hs : List.Subset Or O) : ∀ {qs : List Addr} {ws : List (List Nat)}, qs.length = ws.length → (∀ p ∈ Wv W qs ws, p ∈ Os) → AsDs K O Or (rawL qs) (ws.map (dW W))
  | [], [], _, _ => trivial
  | q :: qs, v :: ws, hl, hm => ⟨asd_ins hO (hm _ List.mem_cons_self) (asdf_d hs [("turns", .tupS (v.map dN)), ("many", .int v.length)]), asds_wv hO hs (by simpa using hl) fun p hp => hm p (List.mem_cons_of_mem _ hp)⟩
  | [], _ :: _, hl, _ => by simp at hl
  | _ :: _, [], hl, _ => by simp at hl
/-- the list that came out, shown -/
theorem asd_found {K : PySem.W.Frag} {W : Addr} {pl : Addr} {qs : List Addr} {ws : List (List Nat)} {O Or Os : List OE} (hO : O.Perm (Os ++ Or)) (hs : List.Subset Or O) (hl : qs.length = ws.length) (h1 : (pl, OO.lst (rawL qs)) ∈ Os) (h2 : ∀ p ∈ Wv W qs ws, p ∈ Os) : AsD K O Or (.raw (.ref pl)) (.lst (ws.map (dW W))) :=
  asd_lst hO h1 (asds_wv hO hs hl h2)
abbrev tS (v : List Nat) : D := .tupS (v.map dN)
theorem wv_at {W : Addr} {qs : List Addr} {ws : List (List Nat)} (hl : qs.length = ws.length) {k : Nat} (hk : k < ws.length) : (qs.getD k 0, weav W (ws.getD k [])) ∈ Wv W qs ws := by
  have h1 : k < qs.length := by omega
  refine List.mem_map.mpr ⟨(qs.getD k 0, ws.getD k []), List.mem_iff_getElem.mpr ⟨k, by rw [List.length_zip]; omega, ?_⟩, rfl⟩
  rw [List.getElem_zip, List.getD_eq_getElem?_getD, List.getElem?_eq_getElem h1, List.getD_eq_getElem?_getD, List.getElem?_eq_getElem hk]
  rfl
theorem split_at {α : Type} {xs : List α} {a : Nat} {d : α} (h : a < xs.length) : xs = xs.take a ++ xs.getD a d :: xs.drop (a + 1) := by
  rw [List.getD_eq_getElem?_getD, List.getElem?_eq_getElem h]
  show xs = xs.take a ++ xs[a] :: xs.drop (a + 1)
  rw [← List.drop_eq_getElem_cons h, List.take_append_drop]
theorem wv_split {W : Addr} {qs : List Addr} {ws : List (List Nat)} (hl : qs.length = ws.length) {a : Nat} (ha : a < ws.length) : Wv W qs ws = Wv W (qs.take a) (ws.take a) ++ (qs.getD a 0, weav W (ws.getD a [])) :: Wv W (qs.drop (a + 1)) (ws.drop (a + 1)) := by
  have e1 := split_at (xs := qs) (a := a) (d := 0) (by omega)
  have e2 := split_at (xs := ws) (a := a) (d := []) ha
  show (qs.zip ws).map _ = _
  conv => lhs; rw [e1, e2]
  rw [List.zip_append (by rw [List.length_take, List.length_take]; omega), List.map_append]
  rfl
theorem take_getD {α : Type} {xs : List α} {a k : Nat} {d : α} (h : k < a) : (xs.take a).getD k d = xs.getD k d := by
  rw [List.getD_eq_getElem?_getD, List.getElem?_take_of_lt h, List.getD_eq_getElem?_getD]
theorem drop_getD {α : Type} {xs : List α} {a k : Nat} {d : α} : (xs.drop a).getD k d = xs.getD (a + k) d := by
  rw [List.getD_eq_getElem?_getD, List.getElem?_drop, List.getD_eq_getElem?_getD]
theorem wv_lo {W : Addr} {qs : List Addr} {ws : List (List Nat)} (hl : qs.length = ws.length) {a k : Nat} (ha : a < ws.length) (hk : k < a) : (qs.getD k 0, weav W (ws.getD k [])) ∈ Wv W (qs.take a) (ws.take a) := by
  have := wv_at (W := W) (qs := qs.take a) (ws := ws.take a) (by rw [List.length_take, List.length_take, hl]) (k := k) (by rw [List.length_take]; omega)
  rw [take_getD hk, take_getD hk] at this
  exact this
theorem wv_hi {W : Addr} {qs : List Addr} {ws : List (List Nat)} (hl : qs.length = ws.length) {a k : Nat} (hk : a < k) (h : k < ws.length) : (qs.getD k 0, weav W (ws.getD k [])) ∈ Wv W (qs.drop (a + 1)) (ws.drop (a + 1)) := by
  have := wv_at (W := W) (qs := qs.drop (a + 1)) (ws := ws.drop (a + 1)) (by rw [List.length_drop, List.length_drop, hl]) (k := k - (a + 1)) (by rw [List.length_drop]; omega)
  rw [drop_getD, drop_getD, show a + 1 + (k - (a + 1)) = k by omega] at this
  exact this
theorem same_ints (xs : List Nat) (hl : xs.length ≤ 100) : SameD 1 (.tup (xs.map dN)) (.tup (xs.map dN)) ∧ SameD 1 (tS xs) (tS xs) := by
  have h : (xs.map dN).length = (xs.map dN).length ∧ (xs.map dN).length < 2 ^ 62 ∧ ∀ k, k < (xs.map dN).length → SameD 0 ((xs.map dN).getD k .non) ((xs.map dN).getD k .non) := by
    refine ⟨rfl, by rw [List.length_map]; omega, fun k hk => ?_⟩
    rw [getDn (by simpa using hk)]
    exact rfl
  exact ⟨h, h⟩
section
variable {P : Program} {w : World} {K : PySem.W.Frag} {mg : Str → Option Value} {base : Heap} {f W : Addr} {fd : FuncData}
structure Defs (P : Program) (w : World) (K : PySem.W.Frag) (mg : Str → Option Value) (base : Heap) (W : Addr) : Prop where
  T : Facts mg
  C : CF K mg W
  st : Fn P w K mg base CX0 1 "_law_state" ["_law_script"] (spState.sp K)
  dr : Fn P w K mg base CX0 1 "_law_draw" pDraw (spDraw.sp K)
  cn : Fn P w K mg base CX0 2 "_law_counts" ["_law_state_here"] (spCounts.sp K)
  yl : Fn P w K mg base CX0 5 "_law_yielded" ["_law_counts_here"] ((spYield W).sp K)
  sm : ∀ n, Fn P w K mg base CX0 (n + 2) "_law_same" ["_law_actual", "_law_due"] ((spSame n).sp K)
  rt : Fn P w K mg base CX0 2 "_law_right" ["_law_found", "_law_counts_here"] ((spRight W).sp K)
  wv : In P w K mg base CX0 1 W ["self", "turns"] ((spInit W).sp K)
  ia : Inp P w K mg base CX0 1 W "__iadd__" ["self", "other"] ((spIadd W).sp K)
theorem ok_law (F : FnT K "law" sLaw f fd) (Dd : Defs P w K mg base W) : FnOk P w K mg base CX0 6 f fd ["_law_script"] (spLaw.sp K) := by
  refine fn_ok0 F scLaw (fun _ _ => rfl) fun cdv A outer st H EX hr xs _ => ?_
  have T := Dd.T
  have C := Dd.C
  have sz : sizeLine = 2 ^ 24 := rfl
  show WSs _ _ _ ⟨[some (.d (.lstF (xs.map .int))), none, none, none, none, none, none, none, none, none, none], []⟩
  refine ws_cons (ws_setW 1 (ew_call Dd.st (hr.mono (by omega)) xs trivial (ea_cons (ev_name 0) ea_nil) (Or := []) (List.Perm.refl _) (fun _ _ _ h => h)) (fun r O' hq => ?_) scLaw.nd)
  obtain ⟨O2, ⟨q, e1, e2⟩, e3⟩ := hq
  subst e1 e2 e3
  obtain ⟨gc, gr⟩ := good_counts (st0 xs)
  refine ws_cons (ws_set 2 (ev_call Dd.cn (hr.mono (by omega)) (q, st0 xs) trivial (ea_cons (ev_name 1) ea_nil) (Or := []) (List.Perm.refl _) (fun _ _ z => z)) ?_ scLaw.nd)
  have ecf : countsF (st0 xs) = ((countsF (st0 xs)).1, (countsF (st0 xs)).2) := rfl
  generalize (countsF (st0 xs)).1 = c at gc gr
  generalize (countsF (st0 xs)).2 = s1
  clear ecf
  show WSs _ _ _ ⟨[some (.d (.lstF (xs.map .int))), some (.raw (.ref q)), some (.d (dL c)), none, none, none, none, none, none, none, none], [(q, s1.o)]⟩
  obtain ⟨cl, cp, ws, hws, w7, w0, R⟩ := gc
  obtain ⟨_, rp, wr, hwr, r7, r0, Rr⟩ := gr
  have dm : (spYield W).dom c := ⟨⟨cl, cp, ws, hws⟩, ws, hws, w7⟩
  have dmr : (spYield W).dom c.reverse := ⟨⟨by rw [List.length_reverse]; exact cl, rp, wr, hwr⟩, wr, hwr, r7⟩
  refine ws_cons (ws_set 3 (EN.lst (ds := c.map dN) (en_list T.list (ev_name 2) lsat_d)) ?_ scLaw.nd)
  -- the three runs
  refine ws_cons (ws_setW 4 (ew_call Dd.yl (hr.mono (by omega)) c dm (ea_cons (ev_name 3) ea_nil) (Or := [(q, s1.o)]) (List.Perm.refl _) (fun _ _ _ h => h)) (fun r O' hx => ?_) scLaw.nd)
  obtain ⟨O2, ⟨pl, qs, ws', h1, hq, e1, e2⟩, e3⟩ := hx
  rw [hws] at h1
  cases h1
  subst e1 e2 e3
  have pub : ∀ {pl' : Addr} {qs' : List Addr} {ws' : List (List Nat)} {Or : List OE}, qs'.length = ws'.length → AsD K (((pl', OO.lst (rawL qs')) :: Wv W qs' ws') ++ Or) Or (.raw (.ref pl')) (.lst (ws'.map (dW W))) := fun hl => asd_found (List.Perm.refl _) (List.subset_append_right _ _) hl List.mem_cons_self fun p hp => List.mem_cons_of_mem _ hp
  refine ws_cons (ws_setW 5 (ew_call Dd.yl (hr.mono (by omega)) c.reverse dmr (ea_cons (EN.lst (ds := c.reverse.map dN) (EN.toL (en_rev (ev_name 2) lsat_d) (by rw [List.map_reverse, List.map_reverse]))) ea_nil) (Or := ((pl, OO.lst (rawL qs)) :: Wv W qs ws) ++ [(q, s1.o)]) (List.Perm.refl _) (fun _ _ _ h => h)) (fun r O' hx => ?_) scLaw.nd)
  obtain ⟨O2, ⟨pl2, qs2, ws2, h1, hq2, e1, e2⟩, e3⟩ := hx
  rw [hwr] at h1
  cases h1
  subst e1 e2 e3
  refine ws_pubAs 5 rfl (List.sublist_append_right _ _) (pub hq2) ?_
  refine ws_cons (ws_setW 6 (ew_call Dd.yl (hr.mono (by omega)) c dm (ea_cons (ev_name 3) ea_nil) (Or := ((pl, OO.lst (rawL qs)) :: Wv W qs ws) ++ [(q, s1.o)]) (List.Perm.refl _) (fun _ _ _ h => h)) (fun r O' hx => ?_) scLaw.nd)
  obtain ⟨O2, ⟨pl3, qs3, ws3, h1, hq3, e1, e2⟩, e3⟩ := hx
  rw [hws] at h1
  cases h1
  subst e1 e2 e3
  refine ws_pubAs 6 rfl (List.sublist_append_right _ _) (pub hq3) ?_
  show WSs _ _ _ ⟨[some (.d (.lstF (xs.map .int))), some (.raw (.ref q)), some (.d (dL c)), some (.d (dL c)), some (.raw (.ref pl)), some (.d (.lst (wr.map (dW W)))), some (.d (.lst (ws.map (dW W)))), none, none, none, none], ((pl, OO.lst (rawL qs)) :: Wv W qs ws) ++ [(q, s1.o)]⟩
  -- all three are right
  have sc : SameD 1 (dL c) (dL c) := ⟨rfl, by rw [List.length_map]; omega, fun k hk => by rw [getDn (by simpa using hk)]; exact rfl⟩
  refine ws_cons (ws_ifF (et_or (c := false) (d := false) (ET.to (et_not (c := true) (et_val (ev_call (Dd.sm 1) (hr.mono (by omega)) (dL c, dL c) sc (ea_cons (ev_name 3) (ea_cons (ev_name 2) ea_nil)) (Or := ((pl, OO.lst (rawL qs)) :: Wv W qs ws) ++ [(q, s1.o)]) (List.Perm.refl _) (fun _ _ z => z)))) rfl)
    (fun _ => ET.to (et_not (c := true) (et_val (ev_callS (rs := [.raw (.ref pl), .d (dL c)]) (ds := [.lst (ws.map (dW W)), dL c]) Dd.rt (hr.mono (by omega)) (ws, c) R (ea_cons (ev_name 4) (ea_cons (ev_name 2) ea_nil)) (Or := [(q, s1.o)]) (List.subset_append_right _ _) ⟨pub hq, asd_d (List.subset_append_right _ _), trivial⟩ rfl rfl (fun _ _ z => z) trivial))) rfl) (fun _ => rfl)) (ws_nil ?_))
  show WSs _ _ _ ⟨[some (.d (.lstF (xs.map .int))), some (.raw (.ref q)), some (.d (dL c)), some (.d (dL c)), some (.raw (.ref pl)), some (.d (.lst (wr.map (dW W)))), some (.d (.lst (ws.map (dW W)))), none, none, none, none], ((pl, OO.lst (rawL qs)) :: Wv W qs ws) ++ [(q, s1.o)]⟩
  refine ws_cons (ws_ifF (et_or (c := false) (d := false) (ET.to (et_not (c := true) (et_val (ev_call Dd.rt (hr.mono (by omega)) (wr, c.reverse) Rr (ea_cons (ev_name 5) (ea_cons (EN.lst (ds := c.reverse.map dN) (EN.toL (en_rev (ev_name 2) lsat_d) (by rw [List.map_reverse, List.map_reverse]))) ea_nil)) (Or := ((pl, OO.lst (rawL qs)) :: Wv W qs ws) ++ [(q, s1.o)]) (List.Perm.refl _) (fun _ _ z => z)))) rfl)
    (fun _ => ET.to (et_not (c := true) (et_val (ev_call Dd.rt (hr.mono (by omega)) (ws, c) R (ea_cons (ev_name 6) (ea_cons (ev_name 2) ea_nil)) (Or := ((pl, OO.lst (rawL qs)) :: Wv W qs ws) ++ [(q, s1.o)]) (List.Perm.refl _) (fun _ _ z => z)))) rfl) (fun _ => rfl)) (ws_nil ?_))
  show WSs _ _ _ ⟨[some (.d (.lstF (xs.map .int))), some (.raw (.ref q)), some (.d (dL c)), some (.d (dL c)), some (.raw (.ref pl)), some (.d (.lst (wr.map (dW W)))), some (.d (.lst (ws.map (dW W)))), none, none, none, none], ((pl, OO.lst (rawL qs)) :: Wv W qs ws) ++ [(q, s1.o)]⟩
  -- the turns of all
  have rl : (rawL qs).length = ws.length := by rw [List.length_map, hq]
  have rk : ∀ k, k < ws.length → (rawL qs).getD k (.d .non) = .raw (.ref (qs.getD k 0)) := fun k hk => by
    rw [List.getD_eq_getElem?_getD, List.getElem?_map, List.getElem?_eq_getElem (by omega), List.getD_eq_getElem?_getD, List.getElem?_eq_getElem (by omega)]
    rfl
  have accT : ∀ (T0 : List D) n, n ≤ T0.length → lcAcc (fun _ => true) (fun k => .d (T0.getD k .non)) n = (T0.take n).map En.d := fun T0 n hn => by
    induction n with
    | zero => rfl
    | succ n ih =>
      rw [lcAcc_succ, if_pos rfl, ih (by omega), List.take_add_one, List.getElem?_eq_getElem (by omega), List.map_append, List.getD_eq_getElem?_getD, List.getElem?_eq_getElem (by omega)]
      rfl
  have tk : ∀ k, k < ws.length → (ws.map tS).getD k .non = tS (ws.getD k []) := fun k hk => by
    rw [List.getD_eq_getElem?_getD, List.getElem?_map, List.getElem?_eq_getElem hk, List.getD_eq_getElem?_getD, List.getElem?_eq_getElem hk]
    rfl
  have dk : ∀ k, k < ws.length → (ws.map (dW W)).getD k .non = dW W (ws.getD k []) := fun k hk => by
    rw [List.getD_eq_getElem?_getD, List.getElem?_map, List.getElem?_eq_getElem hk, List.getD_eq_getElem?_getD, List.getElem?_eq_getElem hk]
    rfl
  refine ws_cons (ws_setLc (i := 8) (iw_own (ev_name 4) List.mem_cons_self) (fun _ => ((pl, OO.lst (rawL qs)) :: Wv W qs ws) ++ [(q, s1.o)]) (fun _ => true) (fun k => .d ((ws.map tS).getD k .non)) blkL0 scLaw.nd rfl (fun _ _ _ => List.mem_cons_of_mem _ List.mem_cons_self) (by rw [rl, sz]; omega) (fun k hk => lcturn _ _ (fun s H Ca cl fp => wgn_name 7 scLaw.nd) (fun s H Ca cl fp => ets_nil) (fun _ s H Ca cl fp => ?_) (fun z => nomatch z)) (fun pt => ?_))
  · have hk : k < ws.length := by rw [rl] at hk; exact hk
    rw [rk k hk, tk k hk]
    exact ev_fld (ev_name 7) (insat_mem (List.mem_cons_of_mem _ (List.mem_append_left _ (wv_at hq hk)))) C.cls C.turns rfl
  have eT : lcAcc (fun _ => true) (fun k => .d ((ws.map tS).getD k .non)) (rawL qs).length = (ws.map tS).map En.d := by
    rw [rl, accT _ _ (by rw [List.length_map]; exact Nat.le_refl _), List.take_of_length_le (by rw [List.length_map]; exact Nat.le_refl _)]
  rw [eT]
  refine ws_perm (O2 := [(q, s1.o)] ++ ((pt, OO.lst ((ws.map tS).map En.d)) :: ((pl, OO.lst (rawL qs)) :: Wv W qs ws))) (List.perm_append_comm (l₁ := (pt, OO.lst ((ws.map tS).map En.d)) :: ((pl, OO.lst (rawL qs)) :: Wv W qs ws)) (l₂ := [(q, s1.o)])) ?_
  -- the drawn one
  have hat := drawN_lt (s := s1) (m := ws.length) w0
  refine ws_cons (ws_set 9 (ev_drawN (s := s1) (m := ws.length) Dd.dr (hr.mono (by omega)) (ea_cons (ev_name 1) (ea_cons (EV.to (ev_lenL T.len (ev_name 4) (lsat_mem (xs := rawL qs) (List.mem_cons_of_mem _ (List.mem_cons_of_mem _ List.mem_cons_self)))) (by rw [rl])) ea_nil)) (Nat.le_refl _) w0 (by omega)) ?_ scLaw.nd)
  generalize drawN s1 ws.length = b at hat
  have hva := wv_at (W := W) hq hat
  show WSs _ _ _ ⟨[some (.d (.lstF (xs.map .int))), some (.raw (.ref q)), some (.d (dL c)), some (.d (dL c)), some (.raw (.ref pl)), some (.d (.lst (wr.map (dW W)))), some (.d (.lst (ws.map (dW W)))), none, some (.raw (.ref pt)), some (.d (.int (b.1 : Nat))), none], (q, b.2.o) :: (pt, OO.lst ((ws.map tS).map En.d)) :: (pl, OO.lst (rawL qs)) :: Wv W qs ws⟩
  have wlen : ∀ v ∈ ws, v.length ≤ 8 := fun v hv => by rw [R.len v hv]; exact R.ct
  have wam : ws.getD b.1 [] ∈ ws := by
    rw [List.getD_eq_getElem?_getD, List.getElem?_eq_getElem hat]
    exact List.getElem_mem _
  refine ws_cons (ws_set (r := .raw (.ref (qs.getD b.1 0))) 7 (ev_ixL (ev_name 4) (ev_name 9) (lsat_mem (xs := rawL qs) (List.mem_cons_of_mem _ (List.mem_cons_of_mem _ List.mem_cons_self))) ?_) ?_ scLaw.nd)
  · refine atI_nat ?_
    have := rk b.1 hat
    rw [List.getD_eq_getElem?_getD, List.getElem?_eq_getElem (by omega)] at this
    rw [List.getElem?_eq_getElem (by omega)]
    exact congrArg some this
  rw [wv_split hq hat]
  refine ws_cons (ws_augOwn (op := .Add) (Or := (q, b.2.o) :: (pt, OO.lst ((ws.map tS).map En.d)) :: (pl, OO.lst (rawL qs)) :: (Wv W (qs.take b.1) (ws.take b.1) ++ Wv W (qs.drop (b.1 + 1)) (ws.drop (b.1 + 1)))) 7 Dd.ia (hr.mono (by omega)) rfl
    (EN.ins (ds := [("turns", .tupS ([3].map dN)), ("many", .int (([3] : List Nat).length : Nat))]) (en_make Dd.wv (hr.mono (by omega)) C.mgW (fun q' => (q', [3])) (fun _ => by show 1 ≤ 1000; omega) (ea_cons (EN.lst (ds := [dN 3]) (en_lst (ea_cons ev_int ea_nil))) ea_nil) (fun _ => rfl) (fun _ => rfl) (fun _ _ _ h => h)))
    (insat_mem (C := W) (fs := [("turns", .d (.tupS ((ws.getD b.1 []).map dN))), ("many", .d (.int ((ws.getD b.1 []).length : Nat)))]) (List.mem_cons_of_mem _ (List.mem_cons_of_mem _ (List.mem_cons_of_mem _ (List.mem_append_right _ List.mem_cons_self)))))
    (qs.getD b.1 0, ws.getD b.1 [], [], [3]) (by have := wlen _ wam; show (ws.getD b.1 []).length + 1 ≤ 1000; omega) rfl ?_ (fun _ _ _ h => h) (fun r O2 hp => ?_) scLaw.nd)
  · refine ((List.Perm.cons _ (List.Perm.cons _ (List.Perm.cons _ List.perm_middle))).trans ?_)
    refine ((List.Perm.cons _ (List.Perm.cons _ (List.Perm.swap _ _ _))).trans ?_)
    refine ((List.Perm.cons _ (List.Perm.swap _ _ _)).trans ?_)
    exact List.Perm.swap _ _ _
  obtain ⟨er, eo⟩ := hp
  subst er eo
  generalize hwa : ws.getD b.1 [] = wa at wam
  have wal := wlen _ wam
  show WSs _ _ _ ⟨[some (.d (.lstF (xs.map .int))), some (.raw (.ref q)), some (.d (dL c)), some (.d (dL c)), some (.raw (.ref pl)), some (.d (.lst (wr.map (dW W)))), some (.d (.lst (ws.map (dW W)))), some (.raw (.ref (qs.getD b.1 0))), some (.raw (.ref pt)), some (.d (.int (b.1 : Nat))), none],
    (qs.getD b.1 0, OO.ins W [("turns", .d (.tup ((wa ++ [3]).map dN))), ("many", .d (.int ((wa.length + 1 : Nat) : Int)))]) :: (q, b.2.o) :: (pt, OO.lst ((ws.map tS).map En.d)) :: (pl, OO.lst (rawL qs)) :: (Wv W (qs.take b.1) (ws.take b.1) ++ Wv W (qs.drop (b.1 + 1)) (ws.drop (b.1 + 1)))⟩
  -- the others are as they were
  have sT : SameD 2 (.lst (ws.map tS)) (.lst (ws.map tS)) := ⟨rfl, by rw [List.length_map]; omega, fun k hk => by
    have hk : k < ws.length := by simpa using hk
    rw [tk k hk]
    refine (same_ints _ ?_).2
    have : ws.getD k [] ∈ ws := by
      rw [List.getD_eq_getElem?_getD, List.getElem?_eq_getElem hk]
      exact List.getElem_mem _
    have := wlen _ this
    omega⟩
  refine ws_cons (ws_ifF (c := false) (ET.to (et_not (c := true) (et_val (ev_callS (rs := [.d (.lst (ws.map tS)), .raw (.ref pt)]) (ds := [.lst (ws.map tS), .lst (ws.map tS)]) (Dd.sm 2) (hr.mono (by omega)) (.lst (ws.map tS), .lst (ws.map tS)) sT
    (ea_cons (EN.lst (ds := ws.map tS) (EN.toL (en_lc (iw_list (ev_name 6)) (fun _ => (qs.getD b.1 0, OO.ins W [("turns", .d (.tup ((wa ++ [3]).map dN))), ("many", .d (.int ((wa.length + 1 : Nat) : Int)))]) :: (q, b.2.o) :: (pt, OO.lst ((ws.map tS).map En.d)) :: (pl, OO.lst (rawL qs)) :: (Wv W (qs.take b.1) (ws.take b.1) ++ Wv W (qs.drop (b.1 + 1)) (ws.drop (b.1 + 1)))) (fun _ => true) (fun k => .d ((ws.map tS).getD k .non)) blkL1 scLaw.nd rfl (fun _ _ _ => trivial) (by rw [List.length_map, sz]; omega) (fun k hk => lcturn _ _ (fun s H Ca cl fp => wgn_name 10 scLaw.nd) (fun s H Ca cl fp => ets_nil) (fun _ s H Ca cl fp => ?_) (fun z => nomatch z))) ?_)) (ea_cons (ev_name 8) ea_nil))
    (Or := (qs.getD b.1 0, OO.ins W [("turns", .d (.tup ((wa ++ [3]).map dN))), ("many", .d (.int ((wa.length + 1 : Nat) : Int)))]) :: (q, b.2.o) :: (pl, OO.lst (rawL qs)) :: (Wv W (qs.take b.1) (ws.take b.1) ++ Wv W (qs.drop (b.1 + 1)) (ws.drop (b.1 + 1)))) ?_ ⟨asd_d ?_, asd_lst (Os := [(pt, OO.lst ((ws.map tS).map En.d))]) ?_ List.mem_cons_self (asds_d ?_ _), trivial⟩ rfl rfl (fun _ _ z => z) trivial))) rfl) (ws_nil ?_))
  · have hk : k < ws.length := by simpa using hk
    rw [dk k hk, tk k hk]
    exact ev_fld (ev_name 10) insat_d C.cls C.turns rfl
  · rw [List.length_map, accT _ _ (by rw [List.length_map]; exact Nat.le_refl _), List.take_of_length_le (by rw [List.length_map]; exact Nat.le_refl _)]
  · intro p hp
    simp only [List.mem_cons] at hp ⊢
    rcases hp with h | h | h | h
    · exact .inl h
    · exact .inr (.inl h)
    · exact .inr (.inr (.inr (.inl h)))
    · exact .inr (.inr (.inr (.inr h)))
  · intro p hp
    simp only [List.mem_cons] at hp ⊢
    rcases hp with h | h | h | h
    · exact .inl h
    · exact .inr (.inl h)
    · exact .inr (.inr (.inr (.inl h)))
    · exact .inr (.inr (.inr (.inr h)))
  · exact (List.Perm.cons _ (List.Perm.swap _ _ _)).trans (List.Perm.swap _ _ _)
  · intro p hp
    simp only [List.mem_cons] at hp ⊢
    rcases hp with h | h | h | h
    · exact .inl h
    · exact .inr (.inl h)
    · exact .inr (.inr (.inr (.inl h)))
    · exact .inr (.inr (.inr (.inr h)))
  -- the changed one
  have tl : ((ws.map tS).map En.d).length = ws.length := by rw [List.length_map, List.length_map]
  refine ws_cons (ws_setitem (r := .d (.tup ((wa ++ [3]).map dN))) (n := b.1) 2 (EV.to (ev_catTA (ds := wa.map dN) (es := [dN 3]) (ev_tupW (ev_ixL (r := .d (tS wa)) (ev_name 8) (ev_name 9) (lsat_own 2) ?_)) (ev_tup (ea_cons ev_int ea_nil)) ?_) (by rw [List.map_append]; rfl)) (ev_name 8) (ev_name 9) rfl ?_ ?_)
  · have := getDL (xs := ws.map tS) (k := b.1) (by rw [List.length_map]; exact hat)
    rw [tk b.1 hat, hwa] at this
    exact this
  · rw [List.length_map, sz]
    show wa.length + 1 ≤ _
    omega
  · rw [tl]
    unfold ixN
    rw [if_pos (by omega), if_pos (by omega)]
    rfl
  generalize hT1 : (ws.map tS).set b.1 (.tup ((wa ++ [3]).map dN)) = T1
  have l1 : T1.length = ws.length := by rw [← hT1, List.length_set, List.length_map]
  have t1 : ∀ k, k < ws.length → k ≠ b.1 → T1.getD k .non = tS (ws.getD k []) := fun k hk hne => by
    rw [← hT1, List.getD_eq_getElem?_getD, List.getElem?_set_ne (Ne.symm hne), ← List.getD_eq_getElem?_getD, tk k hk]
  have t2 : T1.getD b.1 .non = .tup ((wa ++ [3]).map dN) := by
    rw [← hT1, List.getD_eq_getElem?_getD, List.getElem?_set_self (by rw [List.length_map]; exact hat)]
    rfl
  have hset : ((ws.map tS).map En.d).set b.1 (.d (.tup ((wa ++ [3]).map dN))) = T1.map En.d := by
    rw [← hT1, List.map_set]
  show WSs _ _ _ ⟨[some (.d (.lstF (xs.map .int))), some (.raw (.ref q)), some (.d (dL c)), some (.d (dL c)), some (.raw (.ref pl)), some (.d (.lst (wr.map (dW W)))), some (.d (.lst (ws.map (dW W)))), some (.raw (.ref (qs.getD b.1 0))), some (.raw (.ref pt)), some (.d (.int (b.1 : Nat))), none],
    (qs.getD b.1 0, OO.ins W [("turns", .d (.tup ((wa ++ [3]).map dN))), ("many", .d (.int ((wa.length + 1 : Nat) : Int)))]) :: (q, b.2.o) :: (pt, OO.lst (((ws.map tS).map En.d).set b.1 (.d (.tup ((wa ++ [3]).map dN))))) :: (pl, OO.lst (rawL qs)) :: (Wv W (qs.take b.1) (ws.take b.1) ++ Wv W (qs.drop (b.1 + 1)) (ws.drop (b.1 + 1)))⟩
  rw [hset]
  have sT1 : SameD 2 (.lst T1) (.lst T1) := ⟨rfl, by rw [l1]; omega, fun k hk => by
    have hk : k < ws.length := by rw [l1] at hk; exact hk
    by_cases hne : k = b.1
    · subst hne
      rw [t2]
      exact (same_ints _ (by rw [List.length_append]; show _ + 1 ≤ 100; omega)).1
    · rw [t1 k hk hne]
      refine (same_ints _ ?_).2
      have : ws.getD k [] ∈ ws := by
        rw [List.getD_eq_getElem?_getD, List.getElem?_eq_getElem hk]
        exact List.getElem_mem _
      have := wlen _ this
      omega⟩
  refine ws_cons (ws_ret (ev_callS (rs := [.d (.lst T1), .raw (.ref pt)]) (ds := [.lst T1, .lst T1]) (Dd.sm 2) (hr.mono (by omega)) (.lst T1, .lst T1) sT1
    (ea_cons (EN.lst (ds := T1) (EN.toL (en_lc (iw_own (ev_name 4) (List.mem_cons_of_mem _ (List.mem_cons_of_mem _ (List.mem_cons_of_mem _ List.mem_cons_self)))) (fun _ => (qs.getD b.1 0, OO.ins W [("turns", .d (.tup ((wa ++ [3]).map dN))), ("many", .d (.int ((wa.length + 1 : Nat) : Int)))]) :: (q, b.2.o) :: (pt, OO.lst (T1.map En.d)) :: (pl, OO.lst (rawL qs)) :: (Wv W (qs.take b.1) (ws.take b.1) ++ Wv W (qs.drop (b.1 + 1)) (ws.drop (b.1 + 1)))) (fun _ => true) (fun k => .d (T1.getD k .non)) blkL2 scLaw.nd rfl (fun _ _ _ => List.mem_cons_of_mem _ (List.mem_cons_of_mem _ (List.mem_cons_of_mem _ (List.mem_cons_of_mem _ List.mem_cons_self)))) (by rw [rl, sz]; omega) (fun k hk => lcturn _ _ (fun s H Ca cl fp => wgn_name 10 scLaw.nd) (fun s H Ca cl fp => ets_nil) (fun _ s H Ca cl fp => ?_) (fun z => nomatch z))) ?_)) (ea_cons (ev_name 8) ea_nil))
    (Or := (qs.getD b.1 0, OO.ins W [("turns", .d (.tup ((wa ++ [3]).map dN))), ("many", .d (.int ((wa.length + 1 : Nat) : Int)))]) :: (q, b.2.o) :: (pl, OO.lst (rawL qs)) :: (Wv W (qs.take b.1) (ws.take b.1) ++ Wv W (qs.drop (b.1 + 1)) (ws.drop (b.1 + 1)))) ?_ ⟨asd_d ?_, asd_lst (Os := [(pt, OO.lst (T1.map En.d))]) ?_ List.mem_cons_self (asds_d ?_ _), trivial⟩ rfl rfl (fun _ _ z => z) trivial) rfl)
  · have hk : k < ws.length := by rw [rl] at hk; exact hk
    rw [rk k hk]
    by_cases hne : k = b.1
    · subst hne
      rw [t2]
      exact ev_fld (ev_name 10) (insat_mem List.mem_cons_self) C.cls C.turns rfl
    · rw [t1 k hk hne]
      refine ev_fld (ev_name 10) (insat_mem (fs := [("turns", .d (tS (ws.getD k []))), ("many", .d (.int ((ws.getD k []).length : Nat)))]) (List.mem_cons_of_mem _ (List.mem_cons_of_mem _ (List.mem_cons_of_mem _ (List.mem_cons_of_mem _ ?_))))) C.cls C.turns rfl
      rcases Nat.lt_or_gt_of_ne hne with h | h
      · exact List.mem_append_left _ (wv_lo hq hat h)
      · exact List.mem_append_right _ (wv_hi hq h hk)
  · rw [rl, ← l1, accT _ _ (Nat.le_refl _), List.take_length]
  · intro p hp
    simp only [List.mem_cons] at hp ⊢
    rcases hp with h | h | h | h
    · exact .inl h
    · exact .inr (.inl h)
    · exact .inr (.inr (.inr (.inl h)))
    · exact .inr (.inr (.inr (.inr h)))
  · intro p hp
    simp only [List.mem_cons] at hp ⊢
    rcases hp with h | h | h | h
    · exact .inl h
    · exact .inr (.inl h)
    · exact .inr (.inr (.inr (.inl h)))
    · exact .inr (.inr (.inr (.inr h)))
  · exact (List.Perm.cons _ (List.Perm.swap _ _ _)).trans (List.Perm.swap _ _ _)
  · intro p hp
    simp only [List.mem_cons] at hp ⊢
    rcases hp with h | h | h | h
    · exact .inl h
    · exact .inr (.inl h)
    · exact .inr (.inr (.inr (.inl h)))
    · exact .inr (.inr (.inr (.inr h)))
end
end TT

namespace TT
open PySem PySem.Spec PyProof.Rows L2 Lx
abbrev Rw : PySem.W.OpenRow := PySem.W.OpenLaw.row PySem.Challenge.rw_elseput_k45_whole_interleavings
abbrev qv : Program := PySem.W.view Rw.prog [35]
def names0 : List Str := ["_wall", "following", "ElseputError", "BadNumber", "BadText", "BadTurn", "LETTERS", "DIGITS", "SIGNS", "BOUND", "run_end", "token_end", "tokens", "line_tokens", "is_integer", "Reader", "MOST_TIMES", "repeated_turns", "Weaving", "interleavings", "_law_state", "_law_draw", "_law_is_int", "_law_same", "_law_counts", "_law_product", "_law_yielded", "_law_less", "_law_right"]
def namesA : List Str := names0
def fnA : List He.DefD := [mdef "following" sF, mdef "interleavings" sInter, mdef "_law_state" sState, mdef "_law_draw" sDraw, mdef "_law_is_int" sIsInt, mdef "_law_same" sSame, mdef "_law_counts" sCounts, mdef "_law_product" sProd, mdef "_law_yielded" sYield, mdef "_law_less" sLess, mdef "_law_right" sRight, mdef "law" sLaw, cdef "Weaving" "__init__" "Weaving.__init__" sInit, cdef "Weaving" "__iadd__" "Weaving.__iadd__" sIadd]
def faA : List He.Fa := [.glo "following", .glo "interleavings", .glo "_law_state", .glo "_law_draw", .glo "_law_is_int", .glo "_law_same", .glo "_law_counts", .glo "_law_product", .glo "_law_yielded", .glo "_law_less", .glo "_law_right", .glo "law", .glo "Weaving", .free "len", .free "list", .free "int", .free "range", .free "min", .free "sum", .free "tuple", .free "isinstance", .free "enumerate", .free "str", .free "bool", .free "dict", .cls "Weaving", .noat "Weaving" "turns", .noat "Weaving" "many", .mkr "Weaving"]
def exA (K : PySem.W.Frag) : Bool := isiB K (He.ga K "Weaving") && (oneB K (He.ga K "Weaving") (He.ga K "Weaving") true && inpB K (He.ga K "Weaving") "__iadd__")
abbrev hkA : PySem.W.Hook := hookE2 5 faA fnA exA
def obA (s : PySem.W.SharedT) : AlE := obsE2 5 faA fnA exA (HandSHeadRun.getT s)
theorem obA_eq (s : PySem.W.SharedT) : obA s = hkA.obs s.abs := obsE2_eq (HandSHeadRun.getT_eq s)
theorem runA (w : World) : HandSHeadRun.RunEq Rw qv hkA obA 4000 namesA w := by
  intro os
  kernel_rfl
end TT

namespace TT
open PySem PySem.Spec PyProof.Rows L2 Lx
theorem facts {P : Program} {w : World} {K : PySem.W.Frag} {h : Heap} {mg : Str → Option Value} {f : Addr} (X : K.In h) (G : h.Ns mainGlobals mg) (hfa : mg ("law" : Str) = some (.ref f)) (c : Says faA fnA exA K) :
    ∃ fd : FuncData, (∀ (s : Shared) (v : Value), BindsTo s fd ⟨[v], []⟩ [("_law_script", v)]) ∧ ∀ base : Heap, K.In base → base.Ns mainGlobals mg → FnOk P w K mg base CX0 6 f fd ["_law_script"] (spLaw.sp K) := by
  obtain ⟨c, cx⟩ := c
  obtain ⟨x1, cx⟩ := He.ba cx
  obtain ⟨x2, x3⟩ := He.ba cx
  have fr : ∀ {x : Str} (i : Nat), faA[i]? = some (.free x) → mg x = none := fun {x} i e => He.free_ok X G (c.fact i e)
  have gl : ∀ {x : Str} (i : Nat), faA[i]? = some (.glo x) → mg x = some (.ref (He.ga K x)) := fun {x} i e => He.glo_ok X G (c.fact i e)
  have T : Facts mg := ⟨fr 13 rfl, fr 14 rfl, fr 15 rfl, fr 16 rfl, fr 17 rfl, fr 18 rfl, fr 19 rfl, fr 20 rfl, fr 21 rfl, fr 22 rfl, fr 23 rfl, fr 24 rfl⟩
  have cls := He.cls_ok (c.fact 25 (f := .cls "Weaving") rfl)
  have C : CF K mg (He.ga K "Weaving") := ⟨gl 12 rfl, cls, He.noat_ok (c.fact 26 (f := .noat "Weaving" "turns") rfl), He.noat_ok (c.fact 27 (f := .noat "Weaving" "many") rfl), isiB_ok cls x1, oneB_ok x2⟩
  obtain ⟨d0, F0⟩ := c.def_ 0 (d := mdef "following" sF) rfl
  obtain ⟨d1, F1⟩ := c.def_ 1 (d := mdef "interleavings" sInter) rfl
  obtain ⟨d2, F2⟩ := c.def_ 2 (d := mdef "_law_state" sState) rfl
  obtain ⟨d3, F3⟩ := c.def_ 3 (d := mdef "_law_draw" sDraw) rfl
  obtain ⟨d4, F4⟩ := c.def_ 4 (d := mdef "_law_is_int" sIsInt) rfl
  obtain ⟨d5, F5⟩ := c.def_ 5 (d := mdef "_law_same" sSame) rfl
  obtain ⟨d6, F6⟩ := c.def_ 6 (d := mdef "_law_counts" sCounts) rfl
  obtain ⟨d7, F7⟩ := c.def_ 7 (d := mdef "_law_product" sProd) rfl
  obtain ⟨d8, F8⟩ := c.def_ 8 (d := mdef "_law_yielded" sYield) rfl
  obtain ⟨d9, F9⟩ := c.def_ 9 (d := mdef "_law_less" sLess) rfl
  obtain ⟨d10, F10⟩ := c.def_ 10 (d := mdef "_law_right" sRight) rfl
  obtain ⟨d11, F11⟩ := c.def_ 11 (d := mdef "law" sLaw) rfl
  obtain ⟨d12, F12⟩ := c.def_ 12 (d := cdef "Weaving" "__init__" "Weaving.__init__" sInit) rfl
  obtain ⟨d13, F13⟩ := c.def_ 13 (d := cdef "Weaving" "__iadd__" "Weaving.__iadd__" sIadd) rfl
  have e := hfa.symm.trans (gl (x := "law") 11 rfl)
  cases e
  have b := FunD.bindsA (ps := ["_law_script"]) F11 fun _ _ _ _ _ _ us hl => match us, hl with | [_], _ => rfl
  refine ⟨d11, fun s v => b s [v] rfl, fun base _ _ => ?_⟩
  have dr : Fn P w K mg base CX0 1 "_law_draw" pDraw (spDraw.sp K) := fn_draw F3 T (gl 3 rfl)
  have ii := fn_isInt (P := P) (w := w) (base := base) F4 T (gl 4 rfl)
  have pr := fn_prod (P := P) (w := w) (base := base) F7 T (gl 7 rfl)
  have le := fn_less (P := P) (w := w) (base := base) F9 T (gl 9 rfl)
  have wv : In P w K mg base CX0 1 (He.ga K "Weaving") ["self", "turns"] ((spInit (He.ga K "Weaving")).sp K) := ⟨_, d12, He.mkr_ok (c.fact 28 (f := .mkr "Weaving") rfl), ok_init F12 T C, FunD.bindsN (ps := ["self", "turns"]) F12 fun _ _ _ _ _ _ us hl => match us, hl with | [_, _], _ => rfl⟩
  have ia : Inp P w K mg base CX0 1 (He.ga K "Weaving") "__iadd__" ["self", "other"] ((spIadd (He.ga K "Weaving")).sp K) := ⟨_, d13, inpB_ok cls x3, ok_iadd F13 T C, FunD.bindsN (ps := ["self", "other"]) F13 fun _ _ _ _ _ _ us hl => match us, hl with | [_, _], _ => rfl⟩
  have ff : Fn P w K mg base CX0 1 "following" ["places"] (spF.sp K) := Fn.mk0 F0 (gl 0 rfl) (ok_following F0 T) fun _ _ _ _ _ _ us hl => match us, hl with | [_], _ => rfl
  have gi := fn_inter F1 T C (gl 1 rfl) wv ff
  refine ok_law F11 ⟨T, C, fn_state F2 T (gl 2 rfl), dr, fn_counts F6 T (gl 6 rfl) dr, ?_, fun n => ?_, ?_, wv, ia⟩
  · exact Fn.mk0 F8 (gl 8 rfl) (ok_yield F8 T gi) fun _ _ _ _ _ _ us hl => match us, hl with | [_], _ => rfl
  · exact Fn.mk0 F5 (gl 5 rfl) (ok_same F5 T (gl 5 rfl) ii n) fun _ _ _ _ _ _ us hl => match us, hl with | [_, _], _ => rfl
  · exact Fn.mk0 F10 (gl 10 rfl) (ok_right F10 T C ii pr le) fun _ _ _ _ _ _ us hl => match us, hl with | [_, _], _ => rfl
theorem end_true {K : PySem.W.Frag} {H : Hp} {a : Addr} {ns : List Int} (hS : SqL K H a (ns.map V.int)) {Q : VK} {E : XK} (hQ : ∀ H', Q (.bl true) H') : spLaw.sp K [.ref a] H Q E :=
  ⟨ns, _, trivial, good_script hS, fun v H' r O1 hp g => by
    have hp : r = .d (.bl true) := hp
    subst hp
    obtain ⟨u, e, ok⟩ := g.slot (i := 0) rfl
    injection e with e
    injection e with e
    subst e
    have ok : v = .bl true := ok
    subst ok
    exact hQ H', fun _ _ _ _ _ _ z => z.elim⟩
end TT
open PySem PySem.W PySem.Calls PyProof.Rows
theorem PySem.Challenge.cw_elseput_k45_whole_interleavings_holds : PySem.Challenge.rw_elseput_k45_whole_interleavings.Holds := by
  w_on; o_law
  refine HandSHeadRun.head_any (r := OpenLaw.row PySem.Challenge.rw_elseput_k45_whole_interleavings) (q := TT.qv) (H := TT.hkA) (ob := TT.obA) (M := 4000) (loose := TT.namesA) (d := HandSHeadRun.topDef (OpenLaw.row PySem.Challenge.rw_elseput_k45_whole_interleavings).prog 35) (kwd := []) TT.obA_eq
    (by kernel_rfl) (fun s => by kernel_rfl) TT.runA (by kernel_rfl) (by kernel_rfl) (by kernel_rfl) (by rfl) (by first | assumption | decide +kernel) (by decide +kernel) ⟨rfl, rfl, rfl, rfl, rfl, by decide +kernel⟩ ?hw ?hc
  case hw => w_witness2
  case hc =>
    refine L2.walk_ofE (l := PySem.Challenge.rw_elseput_k45_whole_interleavings) (n := 63) (k := 6) (x := "_law_script") (CX := L2.CX0) rfl (by decide) (by kernel_rfl) ⟨rfl, by decide, by decide⟩ ?F (fun _ _ _ _ z => z)
    intro w mg fa h Y G hmg0
    obtain ⟨K, KX, c⟩ := Y
    have hmg : mg ("law" : PySem.Str) = some (.ref fa) := by
      have e : (HandSHeadRun.topDef (OpenLaw.row PySem.Challenge.rw_elseput_k45_whole_interleavings).prog 35).name = ("law" : PySem.Str) := by kernel_rfl
      rw [← e]
      exact hmg0
    obtain ⟨fd, hb, hF⟩ := TT.facts (P := (PySem.Challenge.rw_elseput_k45_whole_interleavings).prog) (w := w) KX G hmg c
    exact ⟨K, fd, TT.spLaw.sp K, KX, hb, fun H a ns hl _ hS => TT.end_true hS fun _ => rfl, hF⟩
