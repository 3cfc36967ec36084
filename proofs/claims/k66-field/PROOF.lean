import PyProof.Rows.All
import Wide.All
import OpenK.AllK
import Wide.FinOn
import HandS.ForMost
import HandS.ForExc
import HandS.Wide
import HandS.HeadHook2
import HandS.TupAny
import HandS.Zip
import HandS.IsInst
import HandS.HeadEnd
import HandS.Style
import HandS.Dict
import HandS.DictComp
import HandS.WordsExc
import HandS.ExcIs
import HandS.Head0
import HandS.Head1
import HandS.Head2
import PySem.Challenge.RW_hecate_k66_the_field
set_option Elab.async false
set_option linter.all false
set_option maxRecDepth 100000
set_option maxHeartbeats 1000000
/-! Pure data over the hand layer: what a def does to data, without the heap. -/
namespace Pd
open PySem L2

/-- data: instances carry their class's name and their fields; scr is a list that is read only (the script) -/
inductive D where
  | non | bl (b : Bool) | int (i : Int) | str (x : Str)
  | tup (xs : List D) | lst (xs : List D) | scr (xs : List Int) | obj (c : Str) (fs : List (Str × D))
  | dic (kvs : List (Key × D)) | dit (kvs : List (List Key × D))

def Ex (H H' : Hp) : Prop := ∀ a o, H a = some o → H' a = some o
theorem Ex.refl (H : Hp) : Ex H H := fun _ _ h => h
theorem Ex.trans {H H1 H2 : Hp} (a : Ex H H1) (b : Ex H1 H2) : Ex H H2 := fun x o h => b x o (a x o h)
theorem Ex.new {H : Hp} {p : Addr} {o : HO} (h : H p = none) : Ex H (upd H p o) := fun a u e => by
  rw [upd_ne (ne_of_none e h)]
  exact e
theorem Ex.mut {H H' : Hp} {p : Addr} {o : HO} (e : Ex H H') (h : H p = none) : Ex H (upd H' p o) := fun a u ha => by
  rw [upd_ne (ne_of_none ha h)]
  exact e a u ha
theorem Ex.both {H H' : Hp} {p : Addr} {o : HO} (e : Ex H H') : Ex (upd H p o) (upd H' p o) := fun a u ha => by
  by_cases q : a = p
  · subst q
    rw [upd_same] at ha ⊢
    exact ha
  · rw [upd_ne q] at ha ⊢
    exact e a u ha
theorem Ex.put {H H' : Hp} {p : Addr} {o : HO} (e : Ex H H') (h : H' p = some o) : Ex (upd H p o) H' := fun a u ha => by
  by_cases q : a = p
  · subst q
    rw [upd_same] at ha
    rw [← ha]
    exact h
  · rw [upd_ne q] at ha
    exact e a u ha
theorem Ex.none {H H' : Hp} {p : Addr} (e : Ex H H') (h : H' p = none) : H p = none := by
  cases q : H p with
  | none => rfl
  | some o =>
    rw [e p o q] at h
    cases h
theorem ex_rd {H H' : Hp} {a : Addr} {u : HO} (e : Ex H H') (h : Rd H a u) : Rd H' a u := by
  rcases h with h | ⟨o, h⟩
  · exact .inl (e a _ h)
  · exact .inr ⟨o, e a _ h⟩
theorem ex_l {K : PySem.W.Frag} {H H' : Hp} {a : Addr} {xs : List V} (e : Ex H H') (h : SqL K H a xs) : SqL K H' a xs := by
  rcases h with h | h
  · exact .inl (ex_rd e h)
  · exact .inr h
theorem ex_t {K : PySem.W.Frag} {H H' : Hp} {a : Addr} {xs : List V} (e : Ex H H') (h : SqT K H a xs) : SqT K H' a xs := by
  rcases h with h | h
  · exact .inl (ex_rd e h)
  · exact .inr h

/-! ### values and data -/
mutual
inductive Rp (K : PySem.W.Frag) (H : Hp) : V → D → Prop
  | non : Rp K H .non .non
  | bl (b : Bool) : Rp K H (.bl b) (.bl b)
  | int (i : Int) : Rp K H (.int i) (.int i)
  | str (x : Str) : Rp K H (.str x) (.str x)
  | tup {a : Addr} {vs : List V} {ds : List D} : SqT K H a vs → RpL K H vs ds → Rp K H (.ref a) (.tup ds)
  | lst {a : Addr} {vs : List V} {ds : List D} : H a = some (.lst vs) → RpL K H vs ds → Rp K H (.ref a) (.lst ds)
  | scr {a : Addr} {ns : List Int} : SqL K H a (ns.map V.int) → Rp K H (.ref a) (.scr ns)
  | obj {a dx : Addr} {c : Str} {vs : List (Str × V)} {fs : List (Str × D)} : H a = some (.ins (He.ga K c) dx vs) → RpF K H vs fs → Rp K H (.ref a) (.obj c fs)
  | dic {a : Addr} {vs : List (Key × V)} {ds : List (Key × D)} : H a = some (.dK vs) → vs.map Prod.fst = ds.map Prod.fst → RpL K H (vs.map Prod.snd) (ds.map Prod.snd) → Rp K H (.ref a) (.dic ds)
  | dit {a : Addr} {vs : List (List Key × V)} {ds : List (List Key × D)} : H a = some (.dT vs) → vs.map Prod.fst = ds.map Prod.fst → RpL K H (vs.map Prod.snd) (ds.map Prod.snd) → Rp K H (.ref a) (.dit ds)
inductive RpL (K : PySem.W.Frag) (H : Hp) : List V → List D → Prop
  | nil : RpL K H [] []
  | cons {v : V} {vs : List V} {d : D} {ds : List D} : Rp K H v d → RpL K H vs ds → RpL K H (v :: vs) (d :: ds)
inductive RpF (K : PySem.W.Frag) (H : Hp) : List (Str × V) → List (Str × D) → Prop
  | nil : RpF K H [] []
  | cons {f : Str} {v : V} {vs : List (Str × V)} {d : D} {ds : List (Str × D)} : Rp K H v d → RpF K H vs ds → RpF K H ((f, v) :: vs) ((f, d) :: ds)
end
section
variable {K : PySem.W.Frag} {H H' : Hp}
mutual
theorem Rp.mono (e : Ex H H') : ∀ {v : V} {d : D}, Rp K H v d → Rp K H' v d
  | _, _, .non => .non
  | _, _, .bl b => .bl b
  | _, _, .int i => .int i
  | _, _, .str x => .str x
  | _, _, .tup h r => .tup (ex_t e h) (RpL.mono e r)
  | _, _, .lst h r => .lst (e _ _ h) (RpL.mono e r)
  | _, _, .scr h => .scr (ex_l e h)
  | _, _, .obj h r => .obj (e _ _ h) (RpF.mono e r)
  | _, _, .dic h q r => .dic (e _ _ h) q (RpL.mono e r)
  | _, _, .dit h q r => .dit (e _ _ h) q (RpL.mono e r)
theorem RpL.mono (e : Ex H H') : ∀ {vs : List V} {ds : List D}, RpL K H vs ds → RpL K H' vs ds
  | _, _, .nil => .nil
  | _, _, .cons h r => .cons (Rp.mono e h) (RpL.mono e r)
theorem RpF.mono (e : Ex H H') : ∀ {vs : List (Str × V)} {ds : List (Str × D)}, RpF K H vs ds → RpF K H' vs ds
  | _, _, .nil => .nil
  | _, _, .cons h r => .cons (Rp.mono e h) (RpF.mono e r)
end
theorem RpL.length : ∀ {vs : List V} {ds : List D}, RpL K H vs ds → vs.length = ds.length
  | _, _, .nil => rfl
  | _, _, .cons _ r => congrArg (· + 1) r.length
theorem RpL.get : ∀ {vs : List V} {ds : List D}, RpL K H vs ds → ∀ {i : Nat} {d : D}, ds[i]? = some d → ∃ v, vs[i]? = some v ∧ Rp K H v d
  | _, _, .nil, i, d, e => by simp at e
  | _, _, .cons h r, 0, d, e => by
    have e' := Option.some.inj e
    subst e'
    exact ⟨_, rfl, h⟩
  | _, _, .cons h r, i + 1, d, e => r.get (i := i) e
theorem RpL.get' : ∀ {vs : List V} {ds : List D}, RpL K H vs ds → ∀ {i : Nat} {v : V}, vs[i]? = some v → ∃ d, ds[i]? = some d ∧ Rp K H v d
  | _, _, .nil, i, d, e => by simp at e
  | _, _, .cons h r, 0, d, e => by
    have e' := Option.some.inj e
    subst e'
    exact ⟨_, rfl, h⟩
  | _, _, .cons h r, i + 1, d, e => r.get' (i := i) e
theorem RpL.append : ∀ {vs ws : List V} {ds es : List D}, RpL K H vs ds → RpL K H ws es → RpL K H (vs ++ ws) (ds ++ es)
  | _, _, _, _, .nil, q => q
  | _, _, _, _, .cons h r, q => .cons h (r.append q)
theorem RpL.take : ∀ {vs : List V} {ds : List D} (n : Nat), RpL K H vs ds → RpL K H (vs.take n) (ds.take n)
  | _, _, 0, _ => .nil
  | _, _, _ + 1, .nil => .nil
  | _, _, n + 1, .cons h r => .cons h (r.take n)
theorem RpL.drop : ∀ {vs : List V} {ds : List D} (n : Nat), RpL K H vs ds → RpL K H (vs.drop n) (ds.drop n)
  | _, _, 0, r => r
  | _, _, _ + 1, .nil => .nil
  | _, _, n + 1, .cons h r => r.drop n
theorem RpL.set : ∀ {vs : List V} {ds : List D} {v : V} {d : D} (i : Nat), RpL K H vs ds → Rp K H v d → RpL K H (vs.set i v) (ds.set i d)
  | _, _, _, _, _, .nil, _ => .nil
  | _, _, _, _, 0, .cons h r, q => .cons q r
  | _, _, _, _, i + 1, .cons h r, q => .cons h (r.set i q)
theorem RpL.dropLast : ∀ {vs : List V} {ds : List D}, RpL K H vs ds → RpL K H vs.dropLast ds.dropLast
  | _, _, .nil => .nil
  | _, _, .cons h .nil => .nil
  | _, _, .cons h (.cons h2 r) => .cons h (RpL.dropLast (.cons h2 r))
theorem RpL.ints : ∀ {vs : List V} {ns : List Int}, RpL K H vs (ns.map D.int) → vs = ns.map V.int
  | [], [], _ => rfl
  | _ :: _, [], h => by cases h
  | [], _ :: _, h => by cases h
  | v :: vs, n :: ns, h => by
    cases h with
    | cons h r =>
      cases h
      rw [RpL.ints r] <;> rfl
theorem RpL.ofInts : ∀ (ns : List Int), RpL K H (ns.map V.int) (ns.map D.int)
  | [] => .nil
  | n :: ns => .cons (.int n) (RpL.ofInts ns)
theorem RpL.bls : ∀ {vs : List V} {ns : List Bool}, RpL K H vs (ns.map D.bl) → vs = ns.map V.bl
  | [], [], _ => rfl
  | _ :: _, [], h => by cases h
  | [], _ :: _, h => by cases h
  | v :: vs, n :: ns, h => by
    cases h with
    | cons h r =>
      cases h
      rw [RpL.bls r] <;> rfl
theorem RpF.get : ∀ {vs : List (Str × V)} {fs : List (Str × D)}, RpF K H vs fs → ∀ {f : Str} {d : D}, fs.lookup f = some d → ∃ v, vs.lookup f = some v ∧ Rp K H v d
  | _, _, .nil, f, d, e => by cases e
  | _, _, .cons (f := g) (v := v) (vs := vs) (d := x) (ds := ds) h r, f, d, e => by
    by_cases q : f = g
    · subst q
      rw [List.lookup_cons_self] at e
      have e' := Option.some.inj e
      subst e'
      exact ⟨v, List.lookup_cons_self, h⟩
    · have qb : (f == g) = false := by simpa using q
      have e1 : ds.lookup f = some d := by
        rw [List.lookup_cons, qb] at e
        exact e
      obtain ⟨v', e2, h'⟩ := r.get e1
      exact ⟨v', by rw [List.lookup_cons, qb]; exact e2, h'⟩
theorem RpF.not : ∀ {vs : List (Str × V)} {fs : List (Str × D)}, RpF K H vs fs → ∀ {f : Str}, fs.lookup f = none → vs.lookup f = none
  | _, _, .nil, f, e => rfl
  | _, _, .cons (f := g) (v := v) (vs := vs) (d := x) (ds := ds) h r, f, e => by
    by_cases q : f = g
    · subst q
      rw [List.lookup_cons_self] at e
      cases e
    · have qb : (f == g) = false := by simpa using q
      have e1 : ds.lookup f = none := by
        rw [List.lookup_cons, qb] at e
        exact e
      rw [List.lookup_cons, qb]
      exact r.not e1
theorem RpF.length : ∀ {vs : List (Str × V)} {fs : List (Str × D)}, RpF K H vs fs → vs.length = fs.length
  | _, _, .nil => rfl
  | _, _, .cons _ r => congrArg (· + 1) r.length
/-- a field stored, by data -/
def putD (f : Str) (d : D) : List (Str × D) → List (Str × D)
  | [] => [(f, d)]
  | (g, x) :: r => if g = f then (g, d) :: r else (g, x) :: putD f d r
end
end Pd
set_option Elab.async false
set_option linter.all false
set_option maxRecDepth 100000
set_option maxHeartbeats 1000000
namespace Pd
open PySem L2

/-! ### slots -/
/-- what a hot object (one that is still being changed) holds -/
inductive Hc where
  | lst (ds : List D) | ins (c : Str) (fs : List (Str × D)) | dic (kvs : List (Key × D)) | dit (kvs : List (List Key × D))
/-- a slot: nothing known; data; a hot object (fix: it stays the parameter's own) -/
inductive Sl where
  | un | sh (d : D) | ow (fix : Bool) (h : Hc)
abbrev En := List Sl
inductive HcOk (K : PySem.W.Frag) (F : Hp) : HO → Hc → Prop
  | lst {vs : List V} {ds : List D} : RpL K F vs ds → HcOk K F (.lst vs) (.lst ds)
  | ins {dx : Addr} {c : Str} {vs : List (Str × V)} {fs : List (Str × D)} : RpF K F vs fs → HcOk K F (.ins (He.ga K c) dx vs) (.ins c fs)
  | dic {vs : List (Key × V)} {ds : List (Key × D)} : vs.map Prod.fst = ds.map Prod.fst → RpL K F (vs.map Prod.snd) (ds.map Prod.snd) → HcOk K F (.dK vs) (.dic ds)
  | dit {vs : List (List Key × V)} {ds : List (List Key × D)} : vs.map Prod.fst = ds.map Prod.fst → RpL K F (vs.map Prod.snd) (ds.map Prod.snd) → HcOk K F (.dT vs) (.dit ds)
theorem HcOk.mono {K : PySem.W.Frag} {F F' : Hp} {o : HO} {h : Hc} (e : Ex F F') : HcOk K F o h → HcOk K F' o h
  | .lst r => .lst (r.mono e)
  | .ins r => .ins (r.mono e)
  | .dic q r => .dic q (r.mono e)
  | .dit q r => .dit q (r.mono e)
/-- σ holds what e says; F: what does not change any more; B: what stood at the def's entry and does not change; am: where the hot parameters stand -/
structure Ok (K : PySem.W.Frag) (B F H : Hp) (am : Nat → Addr) (σ : St) (e : En) : Prop where
  fh : Ex F H
  bh : Ex B H
  len : σ.length = e.length
  sh : ∀ (i : Nat) (d : D), e[i]? = some (.sh d) → ∃ v, σ[i]? = some (some v) ∧ Rp K F v d
  ow : ∀ (i : Nat) (b : Bool) (h : Hc), e[i]? = some (.ow b h) → ∃ (a : Addr) (o : HO), σ[i]? = some (some (V.ref a)) ∧ F a = none ∧ B a = none ∧ H a = some o ∧ HcOk K F o h ∧ (b = true → a = am i)
  sep : ∀ (i j : Nat) (b : Bool) (h : Hc) (b' : Bool) (h' : Hc) (a : Addr), e[i]? = some (.ow b h) → e[j]? = some (.ow b' h') → σ[i]? = some (some (.ref a)) → σ[j]? = some (some (.ref a)) → i = j
/-- F grows by new objects alone -/
def Gr (B F F' : Hp) : Prop := Ex F F' ∧ ∀ a o, B a = some o → F a = none → F' a = none
theorem Gr.refl (B F : Hp) : Gr B F F := ⟨Ex.refl F, fun _ _ _ h => h⟩
theorem Gr.trans {B F F1 F2 : Hp} (a : Gr B F F1) (b : Gr B F1 F2) : Gr B F F2 := ⟨a.1.trans b.1, fun x o h n => b.2 x o h (a.2 x o h n)⟩
/-- a is hot in e -/
def Hot (σ : St) (e : En) (a : Addr) : Prop := ∃ (i : Nat) (b : Bool) (h : Hc), e[i]? = some (.ow b h) ∧ σ[i]? = some (some (V.ref a))

section
variable {K : PySem.W.Frag} {B F F' H H' : Hp} {am : Nat → Addr} {σ : St} {e : En}
theorem Ok.hot (k : Ok K B F H am σ e) {a : Addr} (h : Hot σ e a) : F a = none ∧ B a = none ∧ ∃ o, H a = some o := by
  obtain ⟨i, b, c, e1, e2⟩ := h
  obtain ⟨a', o, q1, q2, q3, q4, _⟩ := k.ow i b c e1
  rw [e2] at q1
  cases q1
  exact ⟨q2, q3, o, q4⟩
/-- more is fixed, the hot objects stand -/
theorem Ok.step (k : Ok K B F H am σ e) (g : Ex F F') (fh : Ex F' H') (bh : Ex B H') (hot : ∀ a, Hot σ e a → F' a = none ∧ H' a = H a) : Ok K B F' H' am σ e where
  fh := fh
  bh := bh
  len := k.len
  sh := fun i d q => by
    obtain ⟨v, q1, q2⟩ := k.sh i d q
    exact ⟨v, q1, q2.mono g⟩
  ow := fun i b h q => by
    obtain ⟨a, o, q1, q2, q3, q4, q5, q6⟩ := k.ow i b h q
    obtain ⟨z1, z2⟩ := hot a ⟨i, b, h, q, q1⟩
    exact ⟨a, o, q1, z1, q3, z2.trans q4, q5.mono g, q6⟩
  sep := k.sep
/-- a new object that does not change any more -/
theorem Ok.new (k : Ok K B F H am σ e) {p : Addr} {o : HO} (hp : H p = none) : Ok K B (upd F p o) (upd H p o) am σ e ∧ Gr B F (upd F p o) := by
  have fp : F p = none := k.fh.none hp
  refine ⟨k.step (Ex.new fp) (Ex.both k.fh) (k.bh.mut (k.bh.none hp)) fun a ha => ?_, Ex.new fp, fun a u hb hf => ?_⟩
  · obtain ⟨h1, _, u, h3⟩ := k.hot ha
    have n : a ≠ p := ne_of_none h3 hp
    exact ⟨by rw [upd_ne n]; exact h1, by rw [upd_ne n]⟩
  · have n : a ≠ p := ne_of_none (k.bh _ _ hb) hp
    rw [upd_ne n]
    exact hf
/-- a new object that may change -/
theorem Ok.newHot (k : Ok K B F H am σ e) {p : Addr} {o : HO} (hp : H p = none) : Ok K B F (upd H p o) am σ e ∧ F p = none ∧ B p = none ∧ ¬ Hot σ e p := by
  have fp : F p = none := k.fh.none hp
  have bp : B p = none := k.bh.none hp
  have nh : ¬ Hot σ e p := fun h => by
    obtain ⟨_, _, u, h3⟩ := k.hot h
    rw [hp] at h3
    cases h3
  refine ⟨k.step (Ex.refl F) (k.fh.mut fp) (k.bh.mut bp) fun a ha => ?_, fp, bp, nh⟩
  obtain ⟨h1, _, u, h3⟩ := k.hot ha
  exact ⟨h1, upd_ne (ne_of_none h3 hp)⟩
/-- a new object is fixed from here on -/
theorem Ok.fix (k : Ok K B F H am σ e) {p : Addr} {o : HO} (hp : H p = some o) (fp : F p = none) (bp : B p = none) (nh : ¬ Hot σ e p) : Ok K B (upd F p o) H am σ e ∧ Gr B F (upd F p o) := by
  refine ⟨k.step (Ex.new fp) (k.fh.put hp) k.bh fun a ha => ?_, Ex.new fp, fun a u hb hf => ?_⟩
  · have n : a ≠ p := fun q => nh (q ▸ ha)
    exact ⟨by rw [upd_ne n]; exact (k.hot ha).1, rfl⟩
  · have n : a ≠ p := fun q => by
      rw [q, bp] at hb
      cases hb
    rw [upd_ne n]
    exact hf
theorem Ok.get (k : Ok K B F H am σ e) {i : Nat} {d : D} (q : e[i]? = some (.sh d)) : ∃ v, σ[i]? = some (some v) ∧ Rp K F v d := k.sh i d q
theorem hot_set {i : Nat} {v : V} {s : Sl} {a : Addr} (h : Hot (σ.set i (some v)) (e.set i s) a) : Hot σ e a ∨ (v = .ref a ∧ ∃ b c, s = .ow b c) := by
  obtain ⟨j, b, c, q1, q2⟩ := h
  by_cases ij : i = j
  · subst ij
    rw [List.getElem?_set_self' ] at q1 q2
    cases z1 : e[i]? with
    | none =>
      rw [z1] at q1
      cases q1
    | some w =>
      rw [z1] at q1
      cases z2 : σ[i]? with
      | none =>
        rw [z2] at q2
        cases q2
      | some w2 =>
        rw [z2] at q2
        refine .inr ⟨?_, b, c, Option.some.inj q1⟩
        exact Option.some.inj (Option.some.inj q2)
  · rw [List.getElem?_set_ne ij] at q1 q2
    exact .inl ⟨j, b, c, q1, q2⟩
/-- a slot is stored: data -/
theorem Ok.set (k : Ok K B F H am σ e) {i : Nat} {v : V} {d : D} (r : Rp K F v d) : Ok K B F H am (σ.set i (some v)) (e.set i (.sh d)) where
  fh := k.fh
  bh := k.bh
  len := by rw [List.length_set, List.length_set]; exact k.len
  sh := fun j d' q => by
    by_cases ij : i = j
    · subst ij
      rw [List.getElem?_set_self'] at q ⊢
      cases z1 : e[i]? with
      | none =>
        rw [z1] at q
        cases q
      | some w =>
        rw [z1] at q
        have lt : i < σ.length := by
          rw [k.len]
          exact (List.getElem?_eq_some_iff.mp z1).1
        rw [List.getElem?_eq_getElem lt]
        have e1 : Sl.sh d = Sl.sh d' := Option.some.inj q
        cases e1
        exact ⟨v, rfl, r⟩
    · rw [List.getElem?_set_ne ij] at q ⊢
      exact k.sh j d' q
  ow := fun j b h q => by
    by_cases ij : i = j
    · subst ij
      rw [List.getElem?_set_self'] at q
      cases z1 : e[i]? with
      | none =>
        rw [z1] at q
        cases q
      | some w =>
        rw [z1] at q
        cases (Option.some.inj q)
    · rw [List.getElem?_set_ne ij] at q ⊢
      exact k.ow j b h q
  sep := fun j l b h b' h' a q1 q2 q3 q4 => by
    have ne : ∀ {m : Nat} {b : Bool} {h : Hc}, (e.set i (.sh d))[m]? = some (.ow b h) → i ≠ m ∧ e[m]? = some (.ow b h) := fun {m b h} q => by
      by_cases im : i = m
      · subst im
        rw [List.getElem?_set_self'] at q
        cases z1 : e[i]? with
        | none =>
          rw [z1] at q
          cases q
        | some w =>
          rw [z1] at q
          cases (Option.some.inj q)
      · rw [List.getElem?_set_ne im] at q
        exact ⟨im, q⟩
    obtain ⟨n1, r1⟩ := ne q1
    obtain ⟨n2, r2⟩ := ne q2
    rw [List.getElem?_set_ne n1] at q3
    rw [List.getElem?_set_ne n2] at q4
    exact k.sep j l b h b' h' a r1 r2 q3 q4
/-- a slot is stored: a new hot object -/
theorem Ok.setHot (k : Ok K B F H am σ e) {i : Nat} {p : Addr} {o : HO} {h : Hc} (hp : H p = some o) (fp : F p = none) (bp : B p = none) (nh : ¬ Hot σ e p) (r : HcOk K F o h) : Ok K B F H am (σ.set i (some (.ref p))) (e.set i (.ow false h)) where
  fh := k.fh
  bh := k.bh
  len := by rw [List.length_set, List.length_set]; exact k.len
  sh := fun j d' q => by
    by_cases ij : i = j
    · subst ij
      rw [List.getElem?_set_self'] at q
      cases z1 : e[i]? with
      | none =>
        rw [z1] at q
        cases q
      | some w =>
        rw [z1] at q
        cases (Option.some.inj q)
    · rw [List.getElem?_set_ne ij] at q ⊢
      exact k.sh j d' q
  ow := fun j b h' q => by
    by_cases ij : i = j
    · subst ij
      rw [List.getElem?_set_self'] at q ⊢
      cases z1 : e[i]? with
      | none =>
        rw [z1] at q
        cases q
      | some w =>
        rw [z1] at q
        have e1 : Sl.ow false h = Sl.ow b h' := Option.some.inj q
        cases e1
        have lt : i < σ.length := by
          rw [k.len]
          exact (List.getElem?_eq_some_iff.mp z1).1
        rw [List.getElem?_eq_getElem lt]
        exact ⟨p, o, rfl, fp, bp, hp, r, fun z => by cases z⟩
    · rw [List.getElem?_set_ne ij] at q ⊢
      exact k.ow j b h' q
  sep := fun j l b h1 b' h2 a q1 q2 q3 q4 => by
    by_cases ij : i = j
    · by_cases il : i = l
      · exact ij.symm.trans il
      · exfalso
        subst ij
        rw [List.getElem?_set_ne il] at q2 q4
        rw [List.getElem?_set_self'] at q3
        cases z : σ[i]? with
        | none =>
          rw [z] at q3
          cases q3
        | some w =>
          rw [z] at q3
          have e1 : V.ref p = V.ref a := Option.some.inj (Option.some.inj q3)
          cases e1
          exact nh ⟨l, b', h2, q2, q4⟩
    · by_cases il : i = l
      · exfalso
        subst il
        rw [List.getElem?_set_ne ij] at q1 q3
        rw [List.getElem?_set_self'] at q4
        cases z : σ[i]? with
        | none =>
          rw [z] at q4
          cases q4
        | some w =>
          rw [z] at q4
          have e1 : V.ref p = V.ref a := Option.some.inj (Option.some.inj q4)
          cases e1
          exact nh ⟨j, b, h1, q1, q3⟩
      · rw [List.getElem?_set_ne ij] at q1 q3
        rw [List.getElem?_set_ne il] at q2 q4
        exact k.sep j l b h1 b' h2 a q1 q2 q3 q4
/-- the hot object of a slot is changed -/
theorem Ok.write (k : Ok K B F H am σ e) {i : Nat} {b : Bool} {h h' : Hc} {a : Addr} {o : HO} (q : e[i]? = some (.ow b h)) (qa : σ[i]? = some (some (.ref a))) (r : HcOk K F o h') : Ok K B F (upd H a o) am σ (e.set i (.ow b h')) := by
  obtain ⟨fa, ba, u, hu⟩ := k.hot ⟨i, b, h, q, qa⟩
  refine ⟨k.fh.mut fa, k.bh.mut ba, by rw [List.length_set]; exact k.len, fun j d' z => ?_, fun j b' h2 z => ?_, fun j l b1 h1 b2 h2 c z1 z2 z3 z4 => ?_⟩
  · by_cases ij : i = j
    · subst ij
      rw [List.getElem?_set_self', q] at z
      cases z
    · rw [List.getElem?_set_ne ij] at z
      exact k.sh j d' z
  · by_cases ij : i = j
    · subst ij
      rw [List.getElem?_set_self', q] at z
      have e1 : Sl.ow b h' = Sl.ow b' h2 := Option.some.inj z
      cases e1
      obtain ⟨a', o', y1, y2, y3, y4, y5, y6⟩ := k.ow i b h q
      rw [qa] at y1
      cases y1
      exact ⟨a, o, qa, fa, ba, upd_same, r, y6⟩
    · rw [List.getElem?_set_ne ij] at z
      obtain ⟨a', o', y1, y2, y3, y4, y5, y6⟩ := k.ow j b' h2 z
      have n : a' ≠ a := fun w => ij (k.sep i j b h b' h2 a q z qa (w ▸ y1))
      exact ⟨a', o', y1, y2, y3, by rw [upd_ne n]; exact y4, y5, y6⟩
  · have back : ∀ {m : Nat} {b1 : Bool} {h1 : Hc}, (e.set i (.ow b h'))[m]? = some (.ow b1 h1) → ∃ b2 h2, e[m]? = some (.ow b2 h2) := fun {m b1 h1} w => by
      by_cases im : i = m
      · subst im
        exact ⟨b, h, q⟩
      · rw [List.getElem?_set_ne im] at w
        exact ⟨b1, h1, w⟩
    obtain ⟨_, _, w1⟩ := back z1
    obtain ⟨_, _, w2⟩ := back z2
    exact k.sep j l _ _ _ _ c w1 w2 z3 z4
/-- a hot slot's object is fixed: from here on it is data -/
theorem Ok.cool (k : Ok K B F H am σ e) {i : Nat} {h : Hc} {a : Addr} {o : HO} (q : e[i]? = some (.ow false h)) (qa : σ[i]? = some (some (.ref a))) (ho : H a = some o) {d : D} (r : Rp K (upd F a o) (.ref a) d) :
    Ok K B (upd F a o) H am σ (e.set i (.sh d)) ∧ Gr B F (upd F a o) := by
  obtain ⟨fa, ba, u, hu⟩ := k.hot ⟨i, _, h, q, qa⟩
  have g : Ex F (upd F a o) := Ex.new fa
  refine ⟨⟨k.fh.put ho, k.bh, by rw [List.length_set]; exact k.len, fun j d' z => ?_, fun j b' h2 z => ?_, fun j l b1 h1 b2 h2 c z1 z2 z3 z4 => ?_⟩, g, fun x w hb hf => ?_⟩
  · by_cases ij : i = j
    · subst ij
      rw [List.getElem?_set_self', q] at z
      have e1 : Sl.sh d = Sl.sh d' := Option.some.inj z
      cases e1
      exact ⟨_, qa, r⟩
    · rw [List.getElem?_set_ne ij] at z
      obtain ⟨v, q1, q2⟩ := k.sh j d' z
      exact ⟨v, q1, q2.mono g⟩
  · by_cases ij : i = j
    · subst ij
      rw [List.getElem?_set_self', q] at z
      cases z
    · rw [List.getElem?_set_ne ij] at z
      obtain ⟨a', o', y1, y2, y3, y4, y5, y6⟩ := k.ow j b' h2 z
      have n : a' ≠ a := fun w => ij (k.sep i j _ h b' h2 a q z qa (w ▸ y1))
      exact ⟨a', o', y1, by rw [upd_ne n]; exact y2, y3, y4, y5.mono g, y6⟩
  · have ne : ∀ {m : Nat} {b : Bool} {h : Hc}, (e.set i (.sh d))[m]? = some (.ow b h) → e[m]? = some (.ow b h) := fun {m b h} w => by
      by_cases im : i = m
      · subst im
        rw [List.getElem?_set_self', q] at w
        cases w
      · rw [List.getElem?_set_ne im] at w
        exact w
    exact k.sep j l _ _ _ _ c (ne z1) (ne z2) z3 z4
  · have n : x ≠ a := fun z => by
      rw [z, ba] at hb
      cases hb
    rw [upd_ne n]
    exact hf
end
end Pd
set_option Elab.async false
set_option linter.all false
set_option maxRecDepth 100000
set_option maxHeartbeats 1000000
namespace Pd
open PySem L2

/-! ### what parts of a def do, by slots -/
abbrev M (α : Type) := En → Option (α × En)
def ret {α : Type} (a : α) : M α := fun e => some (a, e)
def bnd {α β : Type} (f : M α) (g : α → M β) : M β := fun e => match f e with
  | some (a, e1) => g a e1
  | none => none
def lft {α : Type} (o : Option α) : M α := fun e => match o with
  | some a => some (a, e)
  | none => none
theorem bnd_some {α β : Type} {f : M α} {g : α → M β} {e e' : En} {b : β} (h : bnd f g e = some (b, e')) : ∃ a e1, f e = some (a, e1) ∧ g a e1 = some (b, e') := by
  unfold bnd at h
  cases q : f e with
  | none =>
    rw [q] at h
    cases h
  | some p =>
    obtain ⟨a, e1⟩ := p
    rw [q] at h
    exact ⟨a, e1, rfl, h⟩
theorem lft_some {α : Type} {o : Option α} {e e' : En} {a : α} (h : lft o e = some (a, e')) : o = some a ∧ e' = e := by
  unfold lft at h
  cases o with
  | none => cases h
  | some b =>
    have := Option.some.inj h
    cases this
    exact ⟨rfl, rfl⟩
theorem ret_some {α : Type} {b : α} {e e' : En} {a : α} (h : ret b e = some (a, e')) : a = b ∧ e' = e := by
  have := Option.some.inj h
  cases this
  exact ⟨rfl, rfl⟩

/-! ### judgements -/
/-- te hands back data d (that does not change), by f -/
def EE (K : PySem.W.Frag) (te : TE) (f : M D) : Prop := ∀ B F H am σ e d e' (Q : VK), Ok K B F H am σ e → f e = some (d, e') →
  (∀ v F' H', Gr B F F' → Ok K B F' H' am σ e' → Rp K F' v d → Q v H') → te σ H Q
/-- te hands back a new list -/
def EF (K : PySem.W.Frag) (te : TE) (f : M (List D)) : Prop := ∀ B F H am σ e ds e' (Q : VK), Ok K B F H am σ e → f e = some (ds, e') →
  (∀ p vs F' H', Gr B F F' → Ok K B F' H' am σ e' → H' p = some (.lst vs) → F' p = none → B p = none → ¬ Hot σ e' p → RpL K F' vs ds → Q (.ref p) H') → te σ H Q
def ET (K : PySem.W.Frag) (tt : TT) (f : M Bool) : Prop := ∀ B F H am σ e b e' (Q : Bool → Hp → Prop), Ok K B F H am σ e → f e = some (b, e') →
  (∀ F' H', Gr B F F' → Ok K B F' H' am σ e' → Q b H') → tt σ H Q
/-- an argument: data, or a hot slot -/
inductive Ar where
  | sh (d : D) | hot (i : Nat)
inductive ArL (K : PySem.W.Frag) (F : Hp) (σ : L2.St) : List V → List Ar → Prop
  | nil : ArL K F σ [] []
  | sh {v : V} {vs : List V} {d : D} {as : List Ar} : Rp K F v d → ArL K F σ vs as → ArL K F σ (v :: vs) (.sh d :: as)
  | hot {v : V} {vs : List V} {i : Nat} {as : List Ar} : σ[i]? = some (some v) → ArL K F σ vs as → ArL K F σ (v :: vs) (.hot i :: as)
theorem ArL.mono {K : PySem.W.Frag} {F F' : Hp} {σ : L2.St} (e : Ex F F') : ∀ {vs : List V} {as : List Ar}, ArL K F σ vs as → ArL K F' σ vs as
  | _, _, .nil => .nil
  | _, _, .sh h r => .sh (h.mono e) (r.mono e)
  | _, _, .hot h r => .hot h (r.mono e)
/-- arguments, n of them -/
def EA (K : PySem.W.Frag) (n : Nat) (ta : TA) (f : M (List Ar)) : Prop := ∀ B F H am σ e as e' (Q : List V → Hp → Prop), Ok K B F H am σ e → f e = some (as, e') →
  (∀ vs F' H', Gr B F F' → Ok K B F' H' am σ e' → ArL K F' σ vs as → vs.length = n → as.length = n → Q vs H') → ta σ H Q
/-- arguments, all data -/
def EL (K : PySem.W.Frag) (n : Nat) (ta : TA) (f : M (List D)) : Prop := ∀ B F H am σ e ds e' (Q : List V → Hp → Prop), Ok K B F H am σ e → f e = some (ds, e') →
  (∀ vs F' H', Gr B F F' → Ok K B F' H' am σ e' → RpL K F' vs ds → vs.length = n → Q vs H') → ta σ H Q
/-- a target -/
def EG (K : PySem.W.Frag) (g : TG) (set : D → En → Option En) : Prop := ∀ B F H am σ e v d e' (Q : L2.St → Hp → Prop), Ok K B F H am σ e → Rp K F v d → set d e = some e' →
  (∀ σ' F' H', Gr B F F' → Ok K B F' H' am σ' e' → Q σ' H') → g v σ H Q
/-- an iterator hands back these data, one a turn -/
def Yl (K : PySem.W.Frag) (B F : Hp) (J : It) (ds : List D) : Prop := ∀ F1 H am σ e, Gr B F F1 → Ok K B F1 H am σ e → ∀ i : Nat, (ds.length ≤ i → J.stop i H) ∧ ∀ d, ds[i]? = some d → J.go i H ∧
  ∀ x H', J.yld i H x H' → ∃ F2, Gr B F1 F2 ∧ Ok K B F2 H' am σ e ∧ Rp K F2 x d
def EI (K : PySem.W.Frag) (wi : TI) (f : M (List D)) : Prop := ∀ B F H am σ e ds e' (R : It → Hp → Prop), Ok K B F H am σ e → f e = some (ds, e') →
  (∀ J F' H', Gr B F F' → Ok K B F' H' am σ e' → (∀ B', Yl K B' F' J ds) → R J H') → wi σ H R

structure XE (X : Cx) (K : PySem.W.Frag) (e : Expr) (te : TE) (f : M D) : Prop where
  k : X.K = K
  p : PE X e te
  s : EE K te f
structure XF (X : Cx) (K : PySem.W.Frag) (e : Expr) (te : TE) (f : M (List D)) : Prop where
  k : X.K = K
  p : PE X e te
  s : EF K te f
structure XT (X : Cx) (K : PySem.W.Frag) (e : Expr) (te : TT) (f : M Bool) : Prop where
  k : X.K = K
  p : PT X e te
  s : ET K te f
structure XW (X : Cx) (K : PySem.W.Frag) (e : Expr) (te : TT) (f : M Bool) : Prop where
  k : X.K = K
  p : PW X e te
  s : ET K te f
structure XA (X : Cx) (K : PySem.W.Frag) (n : Nat) (es : List Expr) (ta : TA) (f : M (List Ar)) : Prop where
  k : X.K = K
  p : PA X es ta
  s : EA K n ta f
structure XL (X : Cx) (K : PySem.W.Frag) (n : Nat) (es : List Expr) (ta : TA) (f : M (List D)) : Prop where
  k : X.K = K
  p : PA X es ta
  s : EL K n ta f
structure XG (X : Cx) (K : PySem.W.Frag) (tg : Expr) (g : TG) (set : D → En → Option En) : Prop where
  k : X.K = K
  p : PG X tg g
  s : EG K g set
structure XI (X : Cx) (K : PySem.W.Frag) (tg e : Expr) (wi : TI) (f : M (List D)) : Prop where
  k : X.K = K
  p : PI X tg e wi
  s : EI K wi f

section
variable {X : Cx} {K : PySem.W.Frag} {a b c : Expr} {ta tb tc te : TE} {f g h : M D} {pos : Pos}

/-! ### names, constants -/
/-- a slot's data; a hot object becomes data -/
def rdv (i : Nat) : M D := fun e => match e[i]? with
  | some (.sh d) => some (d, e)
  | some (.ow false (.lst ds)) => some (.lst ds, e.set i (.sh (.lst ds)))
  | some (.ow false (.ins c fs)) => some (.obj c fs, e.set i (.sh (.obj c fs)))
  | _ => none
theorem ee_var (i : Nat) : EE K (tVar i) (rdv i) := by
  intro B F H am σ e d e' Q k q h
  unfold rdv at q
  split at q
  · rename_i d' z
    have := Option.some.inj q
    cases this
    obtain ⟨v, q1, q2⟩ := k.sh i _ z
    exact ⟨v, q1, h v F H (Gr.refl B F) k q2⟩
  · rename_i ds z
    have := Option.some.inj q
    cases this
    obtain ⟨a, o, y1, y2, y3, y4, y5, _⟩ := k.ow i _ _ z
    cases y5 with
    | @lst vs ds r =>
      have r2 : Rp K (upd F a (.lst vs)) (.ref a) (.lst ds) := .lst upd_same (r.mono (Ex.new y2))
      obtain ⟨k', g'⟩ := k.cool z y1 y4 r2
      exact ⟨_, y1, h _ _ _ g' k' r2⟩
  · rename_i c fs z
    have := Option.some.inj q
    cases this
    obtain ⟨a, o, y1, y2, y3, y4, y5, _⟩ := k.ow i _ _ z
    cases y5 with
    | @ins dx c vs fs r =>
      have r2 : Rp K (upd F a (.ins (He.ga K c) dx vs)) (.ref a) (.obj c fs) := .obj upd_same (r.mono (Ex.new y2))
      obtain ⟨k', g'⟩ := k.cool z y1 y4 r2
      exact ⟨_, y1, h _ _ _ g' k' r2⟩
  · cases q
theorem xe_var (i : Nat) {x : Str} (hN : X.N[i]? = some x) (hv : Vis X.env.scope x) (hk : X.K = K := by rfl) (hd : (x == ("__debug__" : Str)) = false := by decide) (hcd : (x == ("__classdict__" : Str)) = false := by decide) :
    XE X K (.Name x pos) (tVar i) (rdv i) := ⟨hk, pe_var hN hv hd hcd, ee_var i⟩
theorem ee_c {v : V} {d : D} (r : ∀ F, Rp K F v d) : EE K (tC v) (ret d) := by
  intro B F H am σ e d' e' Q k q h
  obtain ⟨rfl, rfl⟩ := ret_some q
  exact h v F H (Gr.refl B F) k (r F)
theorem xe_int {i : Int} {j : Nat} (hk : X.K = K := by rfl) : XE X K (.Constant (.int i) j pos) (tC (.int i)) (ret (.int i)) := ⟨hk, pe_int, ee_c fun _ => .int i⟩
theorem xe_bl {i : Bool} {j : Nat} (hk : X.K = K := by rfl) : XE X K (.Constant (.bool i) j pos) (tC (.bl i)) (ret (.bl i)) := ⟨hk, pe_bl, ee_c fun _ => .bl i⟩
theorem xe_non {j : Nat} (hk : X.K = K := by rfl) : XE X K (.Constant .none j pos) (tC .non) (ret .non) := ⟨hk, pe_non, ee_c fun _ => .non⟩
theorem xe_str {i : Str} {j : Nat} (hk : X.K = K := by rfl) : XE X K (.Constant (.str i) j pos) (tC (.str i)) (ret (.str i)) := ⟨hk, pe_str, ee_c fun _ => .str i⟩
/-- a module's name that stands for data -/
structure Gv (K : PySem.W.Frag) (mg : Str → Option Value) (x : Str) (v : V) (d : D) : Prop where
  at_ : ∃ u, mg x = some u ∧ RelV v u
  rp : ∀ F, Rp K F v d
theorem xe_glob {x : Str} {v : V} {d : D} (G : Gv X.K X.mg x v d) (hg : Gl X x := by rfl) (hk : X.K = K := by rfl) (hd : (x == ("__debug__" : Str)) = false := by decide) : XE X K (.Name x pos) (tC v) (ret d) := by
  obtain ⟨⟨u, h1, h2⟩, r⟩ := G
  subst hk
  exact ⟨rfl, pe_glob hg h1 h2 hd, ee_c r⟩

/-! ### operators -/
def bin (o : D → D → Option D) (f g : M D) : M D := bnd f fun x => bnd g fun y => lft (o x y)
def una (o : D → Option D) (f : M D) : M D := bnd f fun x => lft (o x)
/-- an operation whose answer is flat, or one of the parts -/
def BinS (K : PySem.W.Frag) (r : R2) (o : D → D → Option D) : Prop := ∀ F H x dx y dy d (Q : VK), Ex F H → Rp K F x dx → Rp K F y dy → o dx dy = some d → (∀ v, Rp K F v d → Q v H) → r x y H Q
theorem ee_bin {r : R2} {o : D → D → Option D} (hr : BinS K r o) (ha : EE K ta f) (hb : EE K tb g) : EE K (tOp r ta tb) (bin o f g) := by
  intro B F H am σ e d e' Q k q h
  obtain ⟨x, e1, q1, q2⟩ := bnd_some q
  obtain ⟨y, e2, q3, q4⟩ := bnd_some q2
  obtain ⟨q5, rfl⟩ := lft_some q4
  refine ha B F H am σ e x e1 _ k q1 fun v F1 H1 g1 k1 r1 => ?_
  refine hb B F1 H1 am σ e1 y e' _ k1 q3 fun u F2 H2 g2 k2 r2 => ?_
  exact hr F2 H2 v x u y d Q k2.fh (r1.mono g2.1) r2 q5 fun w r3 => h w F2 H2 (g1.trans g2) k2 r3
def UnaS (K : PySem.W.Frag) (r : V → Hp → VK → Prop) (o : D → Option D) : Prop := ∀ F H x dx d (Q : VK), Ex F H → Rp K F x dx → o dx = some d → (∀ v, Rp K F v d → Q v H) → r x H Q
theorem ee_una {r : V → Hp → VK → Prop} {o : D → Option D} (hr : UnaS K r o) (ha : EE K ta f) : EE K (tUn r ta) (una o f) := by
  intro B F H am σ e d e' Q k q h
  obtain ⟨x, e1, q1, q2⟩ := bnd_some q
  obtain ⟨q3, rfl⟩ := lft_some q2
  refine ha B F H am σ e x e' _ k q1 fun v F1 H1 g1 k1 r1 => ?_
  exact hr F1 H1 v x d Q k1.fh r1 q3 fun w r3 => h w F1 H1 g1 k1 r3
theorem xe_bin {op : Operator} {r : R2} {o : D → D → Option D} (ho : OpR X (binaryOp op) r) (hr : BinS K r o) (ha : XE X K a ta f) (hb : XE X K b tb g) : XE X K (.BinOp a op b pos) (tOp r ta tb) (bin o f g) :=
  ⟨ha.k, pe_op ho ha.p hb.p, ee_bin hr ha.s hb.s⟩
theorem xe_una {op : UnaryOp} {r : V → Hp → VK → Prop} {o : D → Option D} (ho : UnR X (unaryOp op) r) (hr : UnaS K r o) (ha : XE X K a ta f) : XE X K (.UnaryOp op a pos) (tUn r ta) (una o f) :=
  ⟨ha.k, pe_un ho ha.p, ee_una hr ha.s⟩
def dAdd : D → D → Option D
  | .int i, .int j => some (.int (i + j))
  | _, _ => none
def dSub : D → D → Option D
  | .int i, .int j => some (.int (i - j))
  | _, _ => none
/-- a product of ints within the model's bounds -/
def MulOk (i j : Int) : Prop := i.natAbs < 2 ^ 64 ∨ j.natAbs < 2 ^ 64 ∨ i.natAbs.log2 + j.natAbs.log2 < 1000000
instance (i j : Int) : Decidable (MulOk i j) := by unfold MulOk; infer_instance
def dMul : D → D → Option D
  | .int i, .int j => if MulOk i j then some (.int (i * j)) else none
  | _, _ => none
def dFdiv : D → D → Option D
  | .int i, .int j => if 0 < j ∧ j.natAbs.log2 < 9000 then some (.int (i / j)) else if j < 0 ∧ j.natAbs < 1073741824 then some (.int (i.fdiv j)) else none
  | _, _ => none
def dMod : D → D → Option D
  | .int i, .int j => if 0 < j then some (.int (i % j)) else if j < 0 then some (.int (i.fmod j)) else none
  | _, _ => none
def dPow : D → D → Option D
  | .int i, .int j => if 0 ≤ j ∧ j ≤ 1000000 ∧ i.natAbs < 2 ^ 64 then some (.int (i ^ j.toNat)) else none
  | _, _ => none
def dNeg : D → Option D
  | .int i => some (.int (-i))
  | _ => none
theorem bs_I0 {gv : Int → Int → V} {gd : Int → Int → D} {o : D → D → Option D} (hg : ∀ F i j, Rp K F (gv i j) (gd i j)) (ho : ∀ x y d, o x y = some d → ∃ i j, x = .int i ∧ y = .int j ∧ d = gd i j) : BinS K (rI0 gv) o := by
  intro F H x dx y dy d Q ex rx ry q h
  obtain ⟨i, j, rfl, rfl, rfl⟩ := ho _ _ _ q
  cases rx
  cases ry
  exact ⟨i, j, rfl, rfl, h _ (hg F i j)⟩
theorem bs_add : BinS K (rI0 fun i j => .int (i + j)) dAdd := bs_I0 (gd := fun i j => .int (i + j)) (fun _ _ _ => .int _) fun x y d q => by
  unfold dAdd at q
  split at q
  · exact ⟨_, _, rfl, rfl, (Option.some.inj q).symm⟩
  · cases q
theorem bs_sub : BinS K (rI0 fun i j => .int (i - j)) dSub := bs_I0 (gd := fun i j => .int (i - j)) (fun _ _ _ => .int _) fun x y d q => by
  unfold dSub at q
  split at q
  · exact ⟨_, _, rfl, rfl, (Option.some.inj q).symm⟩
  · cases q
abbrev rMulA : R2 := fun x y H Q => rI CMul (fun i j => .int (i * j)) x y H Q ∨ rI CMulW (fun i j => .int (i * j)) x y H Q
theorem op_mulA : OpR X (binaryOp .Mult) rMulA := op_mul.or op_mulW
theorem bs_mul : BinS K rMulA dMul := by
  intro F H x dx y dy d Q ex rx ry q h
  unfold dMul at q
  split at q
  · rename_i i j
    split at q
    · rename_i hm
      cases rx
      cases ry
      have e := Option.some.inj q
      subst e
      have q' := h _ (.int (i * j))
      rcases hm with hm | hm | hm
      · exact .inl ⟨i, j, rfl, rfl, .inl (by omega), q'⟩
      · exact .inl ⟨i, j, rfl, rfl, .inr (by omega), q'⟩
      · exact .inr ⟨i, j, rfl, rfl, hm, q'⟩
    · cases q
  · cases q
abbrev rFdivA : R2 := fun x y H Q => rI CDivW (fun i j => .int (i / j)) x y H Q ∨ rI CDivN (fun i j => .int (i.fdiv j)) x y H Q
theorem op_fdivA : OpR X (binaryOp .FloorDiv) rFdivA := op_fdivW.or op_fdivN
theorem bs_fdiv : BinS K rFdivA dFdiv := by
  intro F H x dx y dy d Q ex rx ry q h
  unfold dFdiv at q
  split at q
  · rename_i i j
    cases rx
    cases ry
    split at q
    · rename_i hm
      have e := Option.some.inj q
      subst e
      exact .inl ⟨i, j, rfl, rfl, hm, h _ (.int _)⟩
    · split at q
      · rename_i hm
        have e := Option.some.inj q
        subst e
        exact .inr ⟨i, j, rfl, rfl, ⟨by omega, hm.2⟩, h _ (.int _)⟩
      · cases q
  · cases q
abbrev rModA : R2 := fun x y H Q => rI (fun _ j => 0 < j) (fun i j => .int (i % j)) x y H Q ∨ rI (fun _ j => j ≠ 0) (fun i j => .int (i.fmod j)) x y H Q
theorem op_modA : OpR X (binaryOp .Mod) rModA := op_mod.or op_modN
theorem bs_mod : BinS K rModA dMod := by
  intro F H x dx y dy d Q ex rx ry q h
  unfold dMod at q
  split at q
  · rename_i i j
    cases rx
    cases ry
    split at q
    · rename_i hm
      have e := Option.some.inj q
      subst e
      exact .inl ⟨i, j, rfl, rfl, hm, h _ (.int _)⟩
    · split at q
      · rename_i hm
        have e := Option.some.inj q
        subst e
        exact .inr ⟨i, j, rfl, rfl, by omega, h _ (.int _)⟩
      · cases q
  · cases q
theorem bs_pow : BinS K (rI CPow fun i j => .int (i ^ j.toNat)) dPow := by
  intro F H x dx y dy d Q ex rx ry q h
  unfold dPow at q
  split at q
  · rename_i i j
    cases rx
    cases ry
    split at q
    · rename_i hm
      have e := Option.some.inj q
      subst e
      exact ⟨i, j, rfl, rfl, hm, h _ (.int _)⟩
    · cases q
  · cases q
theorem us_neg : UnaS K (rU fun i => .int (-i)) dNeg := by
  intro F H x dx d Q ex rx q h
  unfold dNeg at q
  split at q
  · cases rx
    have e := Option.some.inj q
    subst e
    exact ⟨_, rfl, h _ (.int _)⟩
  · cases q
abbrev rAddI : R2 := rI0 fun i j => .int (i + j)
abbrev rSubI : R2 := rI0 fun i j => .int (i - j)
abbrev rPowI : R2 := rI CPow fun i j => .int (i ^ j.toNat)
abbrev rNegI : V → Hp → VK → Prop := rU fun i => .int (-i)
theorem xe_add (ha : XE X K a ta f) (hb : XE X K b tb g) : XE X K (.BinOp a .Add b pos) (tOp rAddI ta tb) (bin dAdd f g) := xe_bin op_add bs_add ha hb
theorem xe_sub (ha : XE X K a ta f) (hb : XE X K b tb g) : XE X K (.BinOp a .Sub b pos) (tOp rSubI ta tb) (bin dSub f g) := xe_bin op_sub bs_sub ha hb
theorem xe_mul (ha : XE X K a ta f) (hb : XE X K b tb g) : XE X K (.BinOp a .Mult b pos) (tOp rMulA ta tb) (bin dMul f g) := xe_bin op_mulA bs_mul ha hb
theorem xe_fdiv (ha : XE X K a ta f) (hb : XE X K b tb g) : XE X K (.BinOp a .FloorDiv b pos) (tOp rFdivA ta tb) (bin dFdiv f g) := xe_bin op_fdivA bs_fdiv ha hb
theorem xe_mod (ha : XE X K a ta f) (hb : XE X K b tb g) : XE X K (.BinOp a .Mod b pos) (tOp rModA ta tb) (bin dMod f g) := xe_bin op_modA bs_mod ha hb
theorem xe_pow (ha : XE X K a ta f) (hb : XE X K b tb g) : XE X K (.BinOp a .Pow b pos) (tOp rPowI ta tb) (bin dPow f g) := xe_bin op_pow bs_pow ha hb
theorem xe_neg (ha : XE X K a ta f) : XE X K (.UnaryOp .USub a pos) (tUn rNegI ta) (una dNeg f) := xe_una un_neg us_neg ha

/-! ### comparisons -/
def dLt : D → D → Option D
  | .int i, .int j => some (.bl (decide (i < j)))
  | _, _ => none
def dLe : D → D → Option D
  | .int i, .int j => some (.bl (decide (i ≤ j)))
  | _, _ => none
def dGt : D → D → Option D
  | .int i, .int j => some (.bl (decide (j < i)))
  | _, _ => none
def dGe : D → D → Option D
  | .int i, .int j => some (.bl (decide (j ≤ i)))
  | _, _ => none
theorem bs_lt : BinS K (rI0 fun i j => .bl (decide (i < j))) dLt := bs_I0 (gd := fun i j => .bl (decide (i < j))) (fun _ _ _ => .bl _) fun x y d q => by
  unfold dLt at q
  split at q
  · exact ⟨_, _, rfl, rfl, (Option.some.inj q).symm⟩
  · cases q
theorem bs_le : BinS K (rI0 fun i j => .bl (decide (i ≤ j))) dLe := bs_I0 (gd := fun i j => .bl (decide (i ≤ j))) (fun _ _ _ => .bl _) fun x y d q => by
  unfold dLe at q
  split at q
  · exact ⟨_, _, rfl, rfl, (Option.some.inj q).symm⟩
  · cases q
theorem bs_gt : BinS K (rI0 fun i j => .bl (decide (j < i))) dGt := bs_I0 (gd := fun i j => .bl (decide (j < i))) (fun _ _ _ => .bl _) fun x y d q => by
  unfold dGt at q
  split at q
  · exact ⟨_, _, rfl, rfl, (Option.some.inj q).symm⟩
  · cases q
theorem bs_ge : BinS K (rI0 fun i j => .bl (decide (j ≤ i))) dGe := bs_I0 (gd := fun i j => .bl (decide (j ≤ i))) (fun _ _ _ => .bl _) fun x y d q => by
  unfold dGe at q
  split at q
  · exact ⟨_, _, rfl, rfl, (Option.some.inj q).symm⟩
  · cases q
mutual
def toPy : D → Option PyData
  | .non => some .none
  | .bl b => some (.bool b)
  | .int i => some (.int i)
  | .tup xs => match toPyL xs with
    | some ys => some (.tuple ys)
    | none => none
  | .lst xs => match toPyL xs with
    | some ys => some (.list ys)
    | none => none
  | _ => none
def toPyL : List D → Option (List PyData)
  | [] => some []
  | x :: xs => match toPy x, toPyL xs with
    | some y, some ys => some (y :: ys)
    | _, _ => none
end
def pyF (o : Option (List PyData)) : Option Bool := match o with
  | some _ => some false
  | none => none
def pyF2 (o u : Option (List PyData)) : Option Bool := match o, u with
  | some _, some _ => some false
  | _, _ => none
theorem pyF_some {o : Option (List PyData)} {r : Bool} (h : pyF o = some r) : r = false ∧ ∃ p, o = some p := by
  unfold pyF at h
  split at h
  · exact ⟨(Option.some.inj h).symm, _, rfl⟩
  · cases h
theorem pyF2_some {o u : Option (List PyData)} {r : Bool} (h : pyF2 o u = some r) : r = false ∧ (∃ p, o = some p) ∧ ∃ p, u = some p := by
  unfold pyF2 at h
  split at h
  · exact ⟨(Option.some.inj h).symm, ⟨_, rfl⟩, _, rfl⟩
  · cases h
mutual
/-- == of data, where the model tells it -/
def dEqv : D → D → Option Bool
  | .non, .non => some true
  | .non, .bl _ => some false
  | .non, .int _ => some false
  | .non, .tup xs => pyF (toPyL xs)
  | .non, .lst xs => pyF (toPyL xs)
  | .bl _, .non => some false
  | .int _, .non => some false
  | .tup xs, .non => pyF (toPyL xs)
  | .lst xs, .non => pyF (toPyL xs)
  | .bl a, .bl b => some (a == b)
  | .int i, .int j => some (decide (i = j))
  | .bl a, .int j => some (decide ((if a then 1 else 0) = j))
  | .int i, .bl b => some (decide (i = (if b then 1 else 0)))
  | .int _, .tup xs => pyF (toPyL xs)
  | .int _, .lst xs => pyF (toPyL xs)
  | .tup xs, .int _ => pyF (toPyL xs)
  | .lst xs, .int _ => pyF (toPyL xs)
  | .tup xs, .tup ys => dEqvL xs ys
  | .lst xs, .lst ys => dEqvL xs ys
  | .tup xs, .lst ys => pyF2 (toPyL xs) (toPyL ys)
  | .lst xs, .tup ys => pyF2 (toPyL xs) (toPyL ys)
  | _, _ => none
def dEqvL : List D → List D → Option Bool
  | [], [] => some true
  | [], y :: ys => pyF (toPyL (y :: ys))
  | x :: xs, [] => pyF (toPyL (x :: xs))
  | x :: xs, y :: ys => match dEqv x y, dEqvL xs ys with
    | some a, some b => some (a && b)
    | _, _ => none
end
mutual
theorem Rp.dp {F : Hp} : ∀ {d : D} {v : V} {p : PyData}, Rp K F v d → toPy d = some p → Dp K F v p
  | .non, _, _, h, e => by
    cases h
    simp only [toPy] at e
    cases Option.some.inj e
    exact .non
  | .bl b, _, _, h, e => by
    cases h
    simp only [toPy] at e
    cases Option.some.inj e
    exact .bl b
  | .int i, _, _, h, e => by
    cases h
    simp only [toPy] at e
    cases Option.some.inj e
    exact .int i
  | .tup xs, _, _, h, e => by
    cases h with
    | tup hs r =>
      simp only [toPy] at e
      split at e
      · rename_i ys q
        cases Option.some.inj e
        exact .tup hs (RpL.dp r q)
      · cases e
  | .lst xs, _, _, h, e => by
    cases h with
    | lst hs r =>
      simp only [toPy] at e
      split at e
      · rename_i ys q
        cases Option.some.inj e
        exact .lst (SqL.of hs) (RpL.dp r q)
      · cases e
  | .str _, _, _, _, e => by simp [toPy] at e
  | .scr _, _, _, _, e => by simp [toPy] at e
  | .obj _ _, _, _, _, e => by simp [toPy] at e
theorem RpL.dp {F : Hp} : ∀ {ds : List D} {vs : List V} {ps : List PyData}, RpL K F vs ds → toPyL ds = some ps → DpAll K F vs ps
  | [], _, _, h, e => by
    cases h
    simp only [toPyL] at e
    cases Option.some.inj e
    exact .nil
  | x :: xs, _, _, h, e => by
    cases h with
    | cons h r =>
      simp only [toPyL] at e
      split at e
      · rename_i y ys q1 q2
        cases Option.some.inj e
        exact .cons (Rp.dp h q1) (RpL.dp r q2)
      · cases e
end
end
end Pd
set_option Elab.async false
set_option linter.all false
set_option maxRecDepth 100000
set_option maxHeartbeats 1000000
namespace Pd
open PySem L2
section
variable {X : Cx} {K : PySem.W.Frag} {a b c : Expr} {ta tb tc te : TE} {f g h : M D} {pos : Pos}
mutual
theorem eqv_of : ∀ {x y : D} {r : Bool}, dEqv x y = some r → ∃ p q, toPy x = some p ∧ toPy y = some q ∧ PyData.eqv p q = r
  | .tup xs, .tup ys, r, e => by
    simp only [dEqv] at e
    obtain ⟨ps, qs, h1, h2, h3⟩ := eqvL_of e
    exact ⟨.tuple ps, .tuple qs, by simp only [toPy, h1], by simp only [toPy, h2], by simp only [PyData.eqv]; exact h3⟩
  | .lst xs, .lst ys, r, e => by
    simp only [dEqv] at e
    obtain ⟨ps, qs, h1, h2, h3⟩ := eqvL_of e
    exact ⟨.list ps, .list qs, by simp only [toPy, h1], by simp only [toPy, h2], by simp only [PyData.eqv]; exact h3⟩
  | .non, .non, r, e => by simp only [dEqv] at e; cases Option.some.inj e; exact ⟨_, _, rfl, rfl, rfl⟩
  | .non, .bl _, r, e => by simp only [dEqv] at e; cases Option.some.inj e; exact ⟨_, _, rfl, rfl, rfl⟩
  | .non, .int _, r, e => by simp only [dEqv] at e; cases Option.some.inj e; exact ⟨_, _, rfl, rfl, rfl⟩
  | .bl _, .non, r, e => by simp only [dEqv] at e; cases Option.some.inj e; exact ⟨_, _, rfl, rfl, rfl⟩
  | .int _, .non, r, e => by simp only [dEqv] at e; cases Option.some.inj e; exact ⟨_, _, rfl, rfl, rfl⟩
  | .bl a, .bl b, r, e => by simp only [dEqv] at e; cases Option.some.inj e; exact ⟨_, _, rfl, rfl, rfl⟩
  | .int i, .int j, r, e => by
    simp only [dEqv] at e
    cases Option.some.inj e
    refine ⟨.int i, .int j, rfl, rfl, ?_⟩
    simp only [PyData.eqv]
    rw [Bool.beq_eq_decide_eq]
  | .bl a, .int j, r, e => by
    simp only [dEqv] at e
    cases Option.some.inj e
    refine ⟨.bool a, .int j, rfl, rfl, ?_⟩
    simp only [PyData.eqv]
    rw [Bool.beq_eq_decide_eq]
  | .int i, .bl b, r, e => by
    simp only [dEqv] at e
    cases Option.some.inj e
    refine ⟨.int i, .bool b, rfl, rfl, ?_⟩
    simp only [PyData.eqv]
    rw [Bool.beq_eq_decide_eq]
  | .str _, _, r, e => by simp [dEqv] at e
  | .scr _, _, r, e => by simp [dEqv] at e
  | .obj _ _, _, r, e => by simp [dEqv] at e
  | .non, .str _, r, e => by simp [dEqv] at e
  | .non, .scr _, r, e => by simp [dEqv] at e
  | .non, .obj _ _, r, e => by simp [dEqv] at e
  | .bl _, .str _, r, e => by simp [dEqv] at e
  | .bl _, .scr _, r, e => by simp [dEqv] at e
  | .bl _, .obj _ _, r, e => by simp [dEqv] at e
  | .bl _, .tup _, r, e => by simp [dEqv] at e
  | .bl _, .lst _, r, e => by simp [dEqv] at e
  | .int _, .str _, r, e => by simp [dEqv] at e
  | .int _, .scr _, r, e => by simp [dEqv] at e
  | .int _, .obj _ _, r, e => by simp [dEqv] at e
  | .tup _, .str _, r, e => by simp [dEqv] at e
  | .tup _, .scr _, r, e => by simp [dEqv] at e
  | .tup _, .obj _ _, r, e => by simp [dEqv] at e
  | .tup _, .bl _, r, e => by simp [dEqv] at e
  | .lst _, .str _, r, e => by simp [dEqv] at e
  | .lst _, .scr _, r, e => by simp [dEqv] at e
  | .lst _, .obj _ _, r, e => by simp [dEqv] at e
  | .lst _, .bl _, r, e => by simp [dEqv] at e
  | .non, .tup ys, r, e => by
    simp only [dEqv] at e
    obtain ⟨rfl, p, hp⟩ := pyF_some e
    exact ⟨.none, .tuple p, rfl, by simp only [toPy, hp], by simp only [PyData.eqv]⟩
  | .non, .lst ys, r, e => by
    simp only [dEqv] at e
    obtain ⟨rfl, p, hp⟩ := pyF_some e
    exact ⟨.none, .list p, rfl, by simp only [toPy, hp], by simp only [PyData.eqv]⟩
  | .tup ys, .non, r, e => by
    simp only [dEqv] at e
    obtain ⟨rfl, p, hp⟩ := pyF_some e
    exact ⟨.tuple p, .none, by simp only [toPy, hp], rfl, by simp only [PyData.eqv]⟩
  | .lst ys, .non, r, e => by
    simp only [dEqv] at e
    obtain ⟨rfl, p, hp⟩ := pyF_some e
    exact ⟨.list p, .none, by simp only [toPy, hp], rfl, by simp only [PyData.eqv]⟩
  | .int i, .tup ys, r, e => by
    simp only [dEqv] at e
    obtain ⟨rfl, p, hp⟩ := pyF_some e
    exact ⟨.int i, .tuple p, rfl, by simp only [toPy, hp], by simp only [PyData.eqv]⟩
  | .int i, .lst ys, r, e => by
    simp only [dEqv] at e
    obtain ⟨rfl, p, hp⟩ := pyF_some e
    exact ⟨.int i, .list p, rfl, by simp only [toPy, hp], by simp only [PyData.eqv]⟩
  | .tup ys, .int i, r, e => by
    simp only [dEqv] at e
    obtain ⟨rfl, p, hp⟩ := pyF_some e
    exact ⟨.tuple p, .int i, by simp only [toPy, hp], rfl, by simp only [PyData.eqv]⟩
  | .lst ys, .int i, r, e => by
    simp only [dEqv] at e
    obtain ⟨rfl, p, hp⟩ := pyF_some e
    exact ⟨.list p, .int i, by simp only [toPy, hp], rfl, by simp only [PyData.eqv]⟩
  | .tup xs, .lst ys, r, e => by
    simp only [dEqv] at e
    obtain ⟨rfl, ⟨p, hp⟩, u, hu⟩ := pyF2_some e
    exact ⟨.tuple p, .list u, by simp only [toPy, hp], by simp only [toPy, hu], by simp only [PyData.eqv]⟩
  | .lst xs, .tup ys, r, e => by
    simp only [dEqv] at e
    obtain ⟨rfl, ⟨p, hp⟩, u, hu⟩ := pyF2_some e
    exact ⟨.list p, .tuple u, by simp only [toPy, hp], by simp only [toPy, hu], by simp only [PyData.eqv]⟩
theorem eqvL_of : ∀ {xs ys : List D} {r : Bool}, dEqvL xs ys = some r → ∃ p q, toPyL xs = some p ∧ toPyL ys = some q ∧ PyData.eqvAll p q = r
  | [], [], r, e => by simp only [dEqvL] at e; cases Option.some.inj e; exact ⟨[], [], rfl, rfl, rfl⟩
  | [], y :: ys, r, e => by
    simp only [dEqvL] at e
    obtain ⟨rfl, p, hp⟩ := pyF_some e
    cases p with
    | nil =>
      simp only [toPyL] at hp
      split at hp <;> cases hp
    | cons u us => exact ⟨[], u :: us, rfl, hp, by simp only [PyData.eqvAll]⟩
  | y :: ys, [], r, e => by
    simp only [dEqvL] at e
    obtain ⟨rfl, p, hp⟩ := pyF_some e
    cases p with
    | nil =>
      simp only [toPyL] at hp
      split at hp <;> cases hp
    | cons u us => exact ⟨u :: us, [], hp, rfl, by simp only [PyData.eqvAll]⟩
  | x :: xs, y :: ys, r, e => by
    simp only [dEqvL] at e
    split at e
    · rename_i a b h1 h2
      obtain ⟨p, q, p1, p2, p3⟩ := eqv_of h1
      obtain ⟨ps, qs, q1, q2, q3⟩ := eqvL_of h2
      cases Option.some.inj e
      exact ⟨p :: ps, q :: qs, by simp only [toPyL, p1, q1], by simp only [toPyL, p2, q2], by simp only [PyData.eqvAll, p3, q3]⟩
    · cases e
end
end
end Pd
set_option Elab.async false
set_option linter.all false
set_option maxRecDepth 100000
set_option maxHeartbeats 1000000
namespace Pd
open PySem L2
section
variable {X : Cx} {K : PySem.W.Frag} {a b c : Expr} {rest : List Expr} {ta tb tc te : TE} {f g h : M D} {pos : Pos}

/-! ### == -/
def shOk (d : D) : Bool := match toPy d with
  | some p => SeqAt.shaped p
  | none => false
def dEqB (x y : D) : Option Bool := if shOk x && shOk y then dEqv x y else none
def dEq (x y : D) : Option D := match dEqB x y with
  | some r => some (.bl r)
  | none => none
def dNe (x y : D) : Option D := match dEqB x y with
  | some r => some (.bl (!r))
  | none => none
theorem dEqB_some {x y : D} {r : Bool} (h : dEqB x y = some r) : ∃ p q, toPy x = some p ∧ toPy y = some q ∧ SeqAt.shaped p = true ∧ SeqAt.shaped q = true ∧ PyData.eqv p q = r := by
  unfold dEqB at h
  split at h
  · rename_i hs
    obtain ⟨h1, h2⟩ := Bool.and_eq_true_iff.mp hs
    obtain ⟨p, q, e1, e2, e3⟩ := eqv_of h
    unfold shOk at h1 h2
    rw [e1] at h1
    rw [e2] at h2
    exact ⟨p, q, e1, e2, h1, h2, e3⟩
  · cases h
theorem bs_eq : BinS K (rEqD K) dEq := by
  intro F H x dx y dy d Q ex rx ry q h
  unfold dEq at q
  split at q
  · rename_i r hr
    cases Option.some.inj q
    obtain ⟨p, p', e1, e2, s1, s2, e3⟩ := dEqB_some hr
    exact ⟨p, p', (rx.mono ex).dp e1, (ry.mono ex).dp e2, s1, s2, by rw [e3]; exact h _ (.bl r)⟩
  · cases q
theorem bs_ne : BinS K (rNeD K) dNe := by
  intro F H x dx y dy d Q ex rx ry q h
  unfold dNe at q
  split at q
  · rename_i r hr
    cases Option.some.inj q
    obtain ⟨p, p', e1, e2, s1, s2, e3⟩ := dEqB_some hr
    exact ⟨p, p', (rx.mono ex).dp e1, (ry.mono ex).dp e2, s1, s2, by rw [e3]; exact h _ (.bl (!r))⟩
  · cases q
/-- is None, is not None -/
def dIsN : D → Option D
  | .non => some (.bl true)
  | .str _ => none
  | _ => some (.bl false)
def dNotN : D → Option D
  | .non => some (.bl false)
  | .str _ => none
  | _ => some (.bl true)
theorem ee_isN (ha : EE K ta f) : EE K (tIsN ta) (una dIsN f) := by
  intro B F H am σ e d e' Q k q h
  obtain ⟨x, e1, q1, q2⟩ := bnd_some q
  obtain ⟨q3, rfl⟩ := lft_some q2
  refine ha B F H am σ e x e' _ k q1 fun v F1 H1 g1 k1 r1 => ?_
  have z : d = .bl (decide (v = .non)) := by
    unfold dIsN at q3
    cases r1 <;> first | (cases Option.some.inj q3; simp) | cases q3
  subst z
  exact h _ F1 H1 g1 k1 (.bl _)
theorem ee_notN (ha : EE K ta f) : EE K (tNotN ta) (una dNotN f) := by
  intro B F H am σ e d e' Q k q h
  obtain ⟨x, e1, q1, q2⟩ := bnd_some q
  obtain ⟨q3, rfl⟩ := lft_some q2
  refine ha B F H am σ e x e' _ k q1 fun v F1 H1 g1 k1 r1 => ?_
  have z : d = .bl (!decide (v = .non)) := by
    unfold dNotN at q3
    cases r1 <;> first | (cases Option.some.inj q3; simp) | cases q3
  subst z
  exact h _ F1 H1 g1 k1 (.bl _)

/-! ### comparisons as values, as tests -/
def asB (f : M D) : M Bool := bnd f fun d => match d with
  | .bl r => ret r
  | _ => fun _ => none
theorem asB_some {e e' : En} {r : Bool} (q : asB f e = some (r, e')) : f e = some (.bl r, e') := by
  obtain ⟨d, e1, q1, q2⟩ := bnd_some q
  split at q2
  · obtain ⟨rfl, rfl⟩ := ret_some q2
    exact q1
  · cases q2
theorem et_test (ha : EE K te f) : ET K (tTest te) (asB f) := by
  intro B F H am σ e r e' Q k q h
  refine ha B F H am σ e _ e' _ k (asB_some q) fun v F1 H1 g1 k1 r1 => ?_
  cases r1
  exact ⟨r, rfl, h F1 H1 g1 k1⟩
theorem et_B (ha : EE K te f) : ET K (tB te) (asB f) := et_test ha
theorem xe_cmp {op : CmpOp} {r : R2} {o : D → D → Option D} (ho : OpR X (compareOp op) r) (hr : BinS K r o) (ha : XE X K a ta f) (hb : XE X K b tb g) (hm : behindInMarks op b = false) :
    XE X K (.Compare a [op] [b] pos) (tOp r ta tb) (bin o f g) := ⟨ha.k, pe_cmpR ho ha.p hb.p hm, ee_bin hr ha.s hb.s⟩
theorem xt_cmp {op : CmpOp} {r : R2} {o : D → D → Option D} (ho : OpR X (compareOp op) r) (hr : BinS K r o) (ha : XE X K a ta f) (hb : XE X K b tb g) (hm : behindInMarks op b = false) :
    XT X K (.Compare a [op] [b] pos) (tTest (tOp r ta tb)) (asB (bin o f g)) := ⟨ha.k, pt_cmpR ho ha.p hb.p hm, et_test (ee_bin hr ha.s hb.s)⟩
abbrev rLtI : R2 := rI0 fun i j => .bl (decide (i < j))
abbrev rLeI : R2 := rI0 fun i j => .bl (decide (i ≤ j))
abbrev rGtI : R2 := rI0 fun i j => .bl (decide (j < i))
abbrev rGeI : R2 := rI0 fun i j => .bl (decide (j ≤ i))
theorem xe_lt (ha : XE X K a ta f) (hb : XE X K b tb g) : XE X K (.Compare a [.Lt] [b] pos) (tOp rLtI ta tb) (bin dLt f g) := xe_cmp op_lt bs_lt ha hb (nomark _)
theorem xe_le (ha : XE X K a ta f) (hb : XE X K b tb g) : XE X K (.Compare a [.LtE] [b] pos) (tOp rLeI ta tb) (bin dLe f g) := xe_cmp op_le bs_le ha hb (nomark _)
theorem xe_gt (ha : XE X K a ta f) (hb : XE X K b tb g) : XE X K (.Compare a [.Gt] [b] pos) (tOp rGtI ta tb) (bin dGt f g) := xe_cmp op_gt bs_gt ha hb (nomark _)
theorem xe_ge (ha : XE X K a ta f) (hb : XE X K b tb g) : XE X K (.Compare a [.GtE] [b] pos) (tOp rGeI ta tb) (bin dGe f g) := xe_cmp op_ge bs_ge ha hb (nomark _)
theorem xt_lt (ha : XE X K a ta f) (hb : XE X K b tb g) : XT X K (.Compare a [.Lt] [b] pos) (tTest (tOp rLtI ta tb)) (asB (bin dLt f g)) := xt_cmp op_lt bs_lt ha hb (nomark _)
theorem xt_le (ha : XE X K a ta f) (hb : XE X K b tb g) : XT X K (.Compare a [.LtE] [b] pos) (tTest (tOp rLeI ta tb)) (asB (bin dLe f g)) := xt_cmp op_le bs_le ha hb (nomark _)
theorem xt_gt (ha : XE X K a ta f) (hb : XE X K b tb g) : XT X K (.Compare a [.Gt] [b] pos) (tTest (tOp rGtI ta tb)) (asB (bin dGt f g)) := xt_cmp op_gt bs_gt ha hb (nomark _)
theorem xt_ge (ha : XE X K a ta f) (hb : XE X K b tb g) : XT X K (.Compare a [.GtE] [b] pos) (tTest (tOp rGeI ta tb)) (asB (bin dGe f g)) := xt_cmp op_ge bs_ge ha hb (nomark _)
theorem xe_eq (hu : X.A.units + 64 < cLine) (ha : XE X K a ta f) (hb : XE X K b tb g) : XE X K (.Compare a [.Eq] [b] pos) (tOp (rEqD K) ta tb) (bin dEq f g) := by
  have k := ha.k
  subst k
  exact xe_cmp (op_eqD hu) bs_eq ha hb (nomark _)
theorem xe_ne (hu : X.A.units + 64 < cLine) (ha : XE X K a ta f) (hb : XE X K b tb g) : XE X K (.Compare a [.NotEq] [b] pos) (tOp (rNeD K) ta tb) (bin dNe f g) := by
  have k := ha.k
  subst k
  exact xe_cmp (op_neD hu) bs_ne ha hb (nomark _)
theorem xt_eq (hu : X.A.units + 64 < cLine) (ha : XE X K a ta f) (hb : XE X K b tb g) : XT X K (.Compare a [.Eq] [b] pos) (tTest (tOp (rEqD K) ta tb)) (asB (bin dEq f g)) := by
  have k := ha.k
  subst k
  exact xt_cmp (op_eqD hu) bs_eq ha hb (nomark _)
theorem xt_ne (hu : X.A.units + 64 < cLine) (ha : XE X K a ta f) (hb : XE X K b tb g) : XT X K (.Compare a [.NotEq] [b] pos) (tTest (tOp (rNeD K) ta tb)) (asB (bin dNe f g)) := by
  have k := ha.k
  subst k
  exact xt_cmp (op_neD hu) bs_ne ha hb (nomark _)
theorem xe_isN {j : Nat} {p : Pos} (ha : XE X K a ta f) : XE X K (.Compare a [.Is] [.Constant .none j p] pos) (tIsN ta) (una dIsN f) := ⟨ha.k, pe_cmp (pc_isN ha.p), ee_isN ha.s⟩
theorem xe_notN {j : Nat} {p : Pos} (ha : XE X K a ta f) : XE X K (.Compare a [.IsNot] [.Constant .none j p] pos) (tNotN ta) (una dNotN f) := ⟨ha.k, pe_cmp (pc_notN ha.p), ee_notN ha.s⟩
theorem xt_isN {j : Nat} {p : Pos} (ha : XE X K a ta f) : XT X K (.Compare a [.Is] [.Constant .none j p] pos) (tB (tIsN ta)) (asB (una dIsN f)) := ⟨ha.k, pt_cmp (pc_isN ha.p), et_B (ee_isN ha.s)⟩
theorem xt_notN {j : Nat} {p : Pos} (ha : XE X K a ta f) : XT X K (.Compare a [.IsNot] [.Constant .none j p] pos) (tB (tNotN ta)) (asB (una dNotN f)) := ⟨ha.k, pt_cmp (pc_notN ha.p), et_B (ee_notN ha.s)⟩
/-- any expression whose value is a bool, as a test -/
theorem xt_val (ha : XE X K a ta f) (he : ∀ whole, isTrue a X.env whole = (do let v ← whole; standAt a.pos; holding [v] (truthy v)) := by intro _; rfl) : XT X K a (tB ta) (asB f) := ⟨ha.k, pt_val ha.p he, et_B ha.s⟩
/-- a op b op c -/
def chn (o o' : D → D → Option D) (f g h : M D) : M D := bnd f fun x => bnd g fun y => bnd (lft (o x y)) fun z => match z with
  | .bl true => bnd h fun w => lft (o' y w)
  | .bl false => ret (.bl false)
  | _ => fun _ => none
theorem ee_chain {r r' : R2} {o o' : D → D → Option D} (hr : BinS K r o) (hr' : BinS K r' o') (ha : EE K ta f) (hb : EE K tb g) (hc : EE K tc h) : EE K (tChain r r' ta tb tc) (chn o o' f g h) := by
  intro B F H am σ e d e' Q k q hq
  obtain ⟨x, e1, q1, q2⟩ := bnd_some q
  obtain ⟨y, e2, q3, q4⟩ := bnd_some q2
  obtain ⟨z, e3, q5, q6⟩ := bnd_some q4
  obtain ⟨q7, rfl⟩ := lft_some q5
  refine ha B F H am σ e x e1 _ k q1 fun v F1 H1 g1 k1 r1 => ?_
  refine hb B F1 H1 am σ e1 y e3 _ k1 q3 fun u F2 H2 g2 k2 r2 => ?_
  refine hr F2 H2 v x u y z _ k2.fh (r1.mono g2.1) r2 q7 fun w r3 => ?_
  split at q6
  · cases r3
    refine ⟨true, rfl, ?_⟩
    rw [if_pos rfl]
    obtain ⟨w, e4, q8, q9⟩ := bnd_some q6
    obtain ⟨q10, rfl⟩ := lft_some q9
    refine hc B F2 H2 am σ e3 w e' _ k2 q8 fun w' F3 H3 g3 k3 r4 => ?_
    exact hr' F3 H3 u y w' w d Q k3.fh (r2.mono g3.1) r4 q10 fun w2 r5 => hq w2 F3 H3 ((g1.trans g2).trans g3) k3 r5
  · cases r3
    obtain ⟨rfl, rfl⟩ := ret_some q6
    exact ⟨false, rfl, by rw [if_neg Bool.false_ne_true]; exact hq _ F2 H2 (g1.trans g2) k2 (.bl false)⟩
  · cases q6
theorem xe_chain {op op' : CmpOp} {r r' : R2} {o o' : D → D → Option D} (ho : OpR X (compareOp op) r) (hr : BinS K r o) (ho' : OpR X (compareOp op') r') (hr' : BinS K r' o') (ha : XE X K a ta f) (hb : XE X K b tb g) (hc : XE X K c tc h)
    (hm : lastMarks [op, op'] [b, c] = false := by with_unfolding_all rfl) : XE X K (.Compare a [op, op'] [b, c] pos) (tChain r r' ta tb tc) (chn o o' f g h) := ⟨ha.k, pe_chain ho ho' ha.p hb.p hc.p hm, ee_chain hr hr' ha.s hb.s hc.s⟩
theorem xt_chain {op op' : CmpOp} {r r' : R2} {o o' : D → D → Option D} (ho : OpR X (compareOp op) r) (hr : BinS K r o) (ho' : OpR X (compareOp op') r') (hr' : BinS K r' o') (ha : XE X K a ta f) (hb : XE X K b tb g) (hc : XE X K c tc h)
    (hm : lastMarks [op, op'] [b, c] = false := by with_unfolding_all rfl) : XT X K (.Compare a [op, op'] [b, c] pos) (tTest (tChain r r' ta tb tc)) (asB (chn o o' f g h)) := ⟨ha.k, pt_chain ho ho' ha.p hb.p hc.p hm, et_test (ee_chain hr hr' ha.s hb.s hc.s)⟩

/-! ### and, or, not, if -/
section
variable {tA tB' : TT} {p q : M Bool}
def mAnd (p q : M Bool) : M Bool := bnd p fun r => if r = true then q else ret false
def mOr (p q : M Bool) : M Bool := bnd p fun r => if r = true then ret true else q
def mNot (p : M Bool) : M Bool := bnd p fun r => ret (!r)
theorem et_and (ha : ET K tA p) (hb : ET K tB' q) : ET K (tAnd tA tB') (mAnd p q) := by
  intro B F H am σ e r e' Q k z h
  obtain ⟨x, e1, q1, q2⟩ := bnd_some z
  refine ha B F H am σ e x e1 _ k q1 fun F1 H1 g1 k1 => ?_
  cases x with
  | true => exact hb B F1 H1 am σ e1 r e' Q k1 q2 fun F2 H2 g2 k2 => h F2 H2 (g1.trans g2) k2
  | false =>
    obtain ⟨rfl, rfl⟩ := ret_some q2
    exact h F1 H1 g1 k1
theorem et_or (ha : ET K tA p) (hb : ET K tB' q) : ET K (tOr tA tB') (mOr p q) := by
  intro B F H am σ e r e' Q k z h
  obtain ⟨x, e1, q1, q2⟩ := bnd_some z
  refine ha B F H am σ e x e1 _ k q1 fun F1 H1 g1 k1 => ?_
  cases x with
  | false => exact hb B F1 H1 am σ e1 r e' Q k1 q2 fun F2 H2 g2 k2 => h F2 H2 (g1.trans g2) k2
  | true =>
    obtain ⟨rfl, rfl⟩ := ret_some q2
    exact h F1 H1 g1 k1
theorem et_not (ha : ET K tA p) : ET K (tNot tA) (mNot p) := by
  intro B F H am σ e r e' Q k z h
  obtain ⟨x, e1, q1, q2⟩ := bnd_some z
  obtain ⟨rfl, rfl⟩ := ret_some q2
  exact ha B F H am σ e x e' _ k q1 fun F1 H1 g1 k1 => h F1 H1 g1 k1
theorem xw_and1 (ha : XT X K a tA p) : XW X K (.BoolOp .And [a] pos) tA p := ⟨ha.k, pw_and1 ha.p, ha.s⟩
theorem xw_or1 (ha : XT X K a tA p) : XW X K (.BoolOp .Or [a] pos) tA p := ⟨ha.k, pw_or1 ha.p, ha.s⟩
theorem xw_and (ha : XT X K a tA p) (hb : XW X K (.BoolOp .And (b :: rest) pos) tB' q) : XW X K (.BoolOp .And (a :: b :: rest) pos) (tAnd tA tB') (mAnd p q) := ⟨ha.k, pw_and ha.p hb.p, et_and ha.s hb.s⟩
theorem xw_or (ha : XT X K a tA p) (hb : XW X K (.BoolOp .Or (b :: rest) pos) tB' q) : XW X K (.BoolOp .Or (a :: b :: rest) pos) (tOr tA tB') (mOr p q) := ⟨ha.k, pw_or ha.p hb.p, et_or ha.s hb.s⟩
theorem xt_w (ha : XW X K a tA p) : XT X K a tA p := ⟨ha.k, PW.pt ha.p, ha.s⟩
theorem xt_not (ha : XT X K a tA p) : XT X K (.UnaryOp .Not a pos) (tNot tA) (mNot p) := ⟨ha.k, pt_not ha.p, et_not ha.s⟩
/-- as values -/
def vAnd (f g : M D) : M D := bnd (asB f) fun r => if r = true then g else ret (.bl false)
def vOr (f g : M D) : M D := bnd (asB f) fun r => if r = true then ret (.bl true) else g
def vNot (f : M D) : M D := bnd (asB f) fun r => ret (.bl (!r))
theorem ee_and (ha : EE K ta f) (hb : EE K tb g) : EE K (tAndV ta tb) (vAnd f g) := by
  intro B F H am σ e d e' Q k z h
  obtain ⟨x, e1, q1, q2⟩ := bnd_some z
  refine ha B F H am σ e _ e1 _ k (asB_some q1) fun v F1 H1 g1 k1 r1 => ?_
  cases r1
  refine ⟨x, rfl, ?_⟩
  cases x with
  | true => exact hb B F1 H1 am σ e1 d e' Q k1 q2 fun v F2 H2 g2 k2 r2 => h v F2 H2 (g1.trans g2) k2 r2
  | false =>
    obtain ⟨rfl, rfl⟩ := ret_some q2
    exact h _ F1 H1 g1 k1 (.bl false)
theorem ee_or (ha : EE K ta f) (hb : EE K tb g) : EE K (tOrV ta tb) (vOr f g) := by
  intro B F H am σ e d e' Q k z h
  obtain ⟨x, e1, q1, q2⟩ := bnd_some z
  refine ha B F H am σ e _ e1 _ k (asB_some q1) fun v F1 H1 g1 k1 r1 => ?_
  cases r1
  refine ⟨x, rfl, ?_⟩
  cases x with
  | false => exact hb B F1 H1 am σ e1 d e' Q k1 q2 fun v F2 H2 g2 k2 r2 => h v F2 H2 (g1.trans g2) k2 r2
  | true =>
    obtain ⟨rfl, rfl⟩ := ret_some q2
    exact h _ F1 H1 g1 k1 (.bl true)
theorem ee_not (ha : EE K ta f) : EE K (tNotV ta) (vNot f) := by
  intro B F H am σ e d e' Q k z h
  obtain ⟨x, e1, q1, q2⟩ := bnd_some z
  obtain ⟨rfl, rfl⟩ := ret_some q2
  refine ha B F H am σ e _ e' _ k (asB_some q1) fun v F1 H1 g1 k1 r1 => ?_
  cases r1
  exact ⟨x, rfl, h _ F1 H1 g1 k1 (.bl _)⟩
theorem xe_one {op : BoolOp} (ha : XE X K a ta f) : XE X K (.BoolOp op [a] pos) ta f := ⟨ha.k, pe_one ha.p, ha.s⟩
theorem xe_and (ha : XE X K a ta f) (hb : XE X K (.BoolOp .And (b :: rest) pos) tb g) : XE X K (.BoolOp .And (a :: b :: rest) pos) (tAndV ta tb) (vAnd f g) := ⟨ha.k, pe_and ha.p hb.p, ee_and ha.s hb.s⟩
theorem xe_or (ha : XE X K a ta f) (hb : XE X K (.BoolOp .Or (b :: rest) pos) tb g) : XE X K (.BoolOp .Or (a :: b :: rest) pos) (tOrV ta tb) (vOr f g) := ⟨ha.k, pe_or ha.p hb.p, ee_or ha.s hb.s⟩
theorem xe_not (ha : XE X K a ta f) : XE X K (.UnaryOp .Not a pos) (tNotV ta) (vNot f) := ⟨ha.k, pe_not ha.p, ee_not ha.s⟩
def mIf {α : Type} (p : M Bool) (f g : M α) : M α := bnd p fun r => if r = true then f else g
theorem ee_if (hc : ET K tA p) (ha : EE K ta f) (hb : EE K tb g) : EE K (tIf tA ta tb) (mIf p f g) := by
  intro B F H am σ e d e' Q k z h
  obtain ⟨x, e1, q1, q2⟩ := bnd_some z
  refine hc B F H am σ e x e1 _ k q1 fun F1 H1 g1 k1 => ?_
  cases x with
  | true => exact ha B F1 H1 am σ e1 d e' Q k1 q2 fun v F2 H2 g2 k2 r2 => h v F2 H2 (g1.trans g2) k2 r2
  | false => exact hb B F1 H1 am σ e1 d e' Q k1 q2 fun v F2 H2 g2 k2 r2 => h v F2 H2 (g1.trans g2) k2 r2
theorem xe_if {t : Expr} (hc : XT X K t tA p) (ha : XE X K a ta f) (hb : XE X K b tb g) : XE X K (.IfExp t a b pos) (tIf tA ta tb) (mIf p f g) := ⟨ha.k, pe_ifExp hc.p ha.p hb.p, ee_if hc.s ha.s hb.s⟩
end

/-! ### items, fields -/
def dIx : D → D → Option D
  | .tup ds, .int i => atI ds i
  | .lst ds, .int i => atI ds i
  | .scr ns, .int i => (atI ns i).map D.int
  | _, _ => none
theorem atI_rp {F : Hp} {vs : List V} {ds : List D} {i : Int} {d : D} (r : RpL K F vs ds) (h : atI ds i = some d) : ∃ v, atI vs i = some v ∧ Rp K F v d := by
  unfold atI at h ⊢
  rw [← r.length] at h
  cases q : ixN vs.length i with
  | none =>
    rw [q] at h
    cases h
  | some j =>
    rw [q] at h
    obtain ⟨v, h1, h2⟩ := r.get (show ds[j]? = some d from h)
    exact ⟨v, h1, h2⟩
theorem atI_map {α β : Type} (f : α → β) (xs : List α) (i : Int) : atI (xs.map f) i = (atI xs i).map f := by
  unfold atI
  rw [List.length_map]
  cases ixN xs.length i with
  | none => rfl
  | some j =>
    show (xs.map f)[j]? = (xs[j]?).map f
    rw [List.getElem?_map]
theorem bs_ix : BinS K (rIx K) dIx := by
  intro F H x dx y dy d Q ex rx ry q h
  unfold dIx at q
  split at q
  · cases ry
    cases rx with
    | tup hs r =>
      obtain ⟨v, h1, h2⟩ := atI_rp r q
      exact .inr (.inl ⟨_, _, _, v, rfl, rfl, ex_t ex hs, h1, h v h2⟩)
  · cases ry
    cases rx with
    | lst hs r =>
      obtain ⟨v, h1, h2⟩ := atI_rp r q
      exact .inl ⟨_, _, _, v, rfl, rfl, SqL.of (ex _ _ hs), h1, h v h2⟩
  · rename_i ns i
    cases ry
    cases rx with
    | scr hs =>
      cases z : atI ns i with
      | none =>
        rw [z] at q
        cases q
      | some n =>
        rw [z] at q
        cases Option.some.inj q
        exact .inl ⟨_, _, _, .int n, rfl, rfl, ex_l ex hs, by rw [atI_map, z]; rfl, h _ (.int n)⟩
  · cases q
theorem xe_ix (ha : XE X K a ta f) (hb : XE X K b tb g) (hs : PlainIx b := by exact fun _ _ => rfl) : XE X K (.Subscript a b pos) (tOp (rIx K) ta tb) (bin dIx f g) := by
  have k := ha.k
  subst k
  exact ⟨rfl, pe_ix ix_seq ha.p hb.p hs, ee_bin bs_ix ha.s hb.s⟩
/-- an item of a hot list -/
def hotL (e : En) (i : Nat) : Option (List D) := match e[i]? with
  | some (.ow _ (.lst ds)) => some ds
  | _ => none
theorem hotL_some {e : En} {i : Nat} {ds : List D} (h : hotL e i = some ds) : ∃ b, e[i]? = some (.ow b (.lst ds)) := by
  unfold hotL at h
  split at h
  · cases Option.some.inj h
    exact ⟨_, by assumption⟩
  · cases h
theorem dIx_lst {ds : List D} {y d : D} (h : dIx (.lst ds) y = some d) : ∃ j, y = .int j ∧ atI ds j = some d := by
  cases y <;> first | exact ⟨_, rfl, h⟩ | cases h
theorem Ok.hotL {B F H : Hp} {am : Nat → Addr} {σ : L2.St} {e : En} (k : Ok K B F H am σ e) {i : Nat} {ds : List D} (h : hotL e i = some ds) :
    ∃ b a vs, e[i]? = some (.ow b (.lst ds)) ∧ σ[i]? = some (some (.ref a)) ∧ F a = none ∧ B a = none ∧ H a = some (.lst vs) ∧ RpL K F vs ds := by
  obtain ⟨b, z⟩ := hotL_some h
  obtain ⟨a, o, y1, y2, y3, y4, y5, _⟩ := k.ow i _ _ z
  cases y5 with
  | lst r => exact ⟨b, a, _, z, y1, y2, y3, y4, r⟩
def hotRead {α : Type} (i : Nat) (g : M α) : M (α × List D) := fun e => match hotL e i with
  | some _ => (match g e with
    | some (y, e1) => (match hotL e1 i with
      | some ds => some ((y, ds), e1)
      | none => none)
    | none => none)
  | none => none
theorem hotRead_some {α : Type} {i : Nat} {g : M α} {e e' : En} {y : α} {ds : List D} (h : hotRead i g e = some ((y, ds), e')) : (∃ ds0, hotL e i = some ds0) ∧ g e = some (y, e') ∧ hotL e' i = some ds := by
  unfold hotRead at h
  split at h
  · rename_i ds0 z0
    split at h
    · rename_i y1 e1 z1
      split at h
      · rename_i ds1 z2
        cases Option.some.inj h
        exact ⟨⟨ds0, z0⟩, z1, z2⟩
      · cases h
    · cases h
  · cases h
def ixh (i : Nat) (g : M D) : M D := bnd (hotRead i g) fun p => lft (dIx (.lst p.2) p.1)
theorem ee_ixh (i : Nat) (hb : EE K tb g) : EE K (tOp (rIx K) (tVar i) tb) (ixh i g) := by
  intro B F H am σ e d e' Q k q h
  obtain ⟨⟨y, ds⟩, e1, q1, q2⟩ := bnd_some q
  obtain ⟨q3, rfl⟩ := lft_some q2
  obtain ⟨⟨ds0, z0⟩, z1, z2⟩ := hotRead_some q1
  obtain ⟨b, a, vs0, _, y1, _⟩ := k.hotL z0
  refine ⟨.ref a, y1, ?_⟩
  refine hb B F H am σ e y e' _ k z1 fun u F1 H1 g1 k1 r1 => ?_
  obtain ⟨b', a', vs, _, w1, w2, w3, w4, w5⟩ := k1.hotL z2
  rw [y1] at w1
  cases w1
  obtain ⟨j, rfl, q4⟩ := dIx_lst q3
  cases r1
  obtain ⟨v, h1, h2⟩ := atI_rp w5 q4
  exact .inl ⟨_, _, _, v, rfl, rfl, SqL.of w4, h1, h v F1 H1 g1 k1 h2⟩
theorem xe_ixh (i : Nat) {x : Str} {px : Pos} (hN : X.N[i]? = some x) (hv : Vis X.env.scope x) (hb : XE X K b tb g) (hs : PlainIx b := by exact fun _ _ => rfl) (hd : (x == ("__debug__" : Str)) = false := by decide) (hcd : (x == ("__classdict__" : Str)) = false := by decide) :
    XE X K (.Subscript (.Name x px) b pos) (tOp (rIx K) (tVar i) tb) (ixh i g) := by
  have k := hb.k
  subst k
  exact ⟨rfl, pe_ix ix_seq (pe_var hN hv hd hcd) hb.p hs, ee_ixh i hb.s⟩
def dFld (c : Str) (x : Str) : D → Option D
  | .obj c' fs => if c' = c then fs.lookup x else none
  | _ => none
theorem ee_fld {c x : Str} (hc : Cls K (He.ga K c)) (hn : NoAttr K (He.ga K c) x) (ha : EE K ta f) : EE K (tFld K ta x) (una (dFld c x) f) := by
  intro B F H am σ e d e' Q k q h
  obtain ⟨y, e1, q1, q2⟩ := bnd_some q
  obtain ⟨q3, rfl⟩ := lft_some q2
  refine ha B F H am σ e y e' _ k q1 fun v F1 H1 g1 k1 r1 => ?_
  unfold dFld at q3
  split at q3
  · split at q3
    · rename_i he
      subst he
      cases r1 with
      | obj ho r =>
        obtain ⟨w, h1, h2⟩ := r.get q3
        exact ⟨_, _, _, _, w, rfl, k1.fh _ _ ho, hc, hn, h1, h w F1 H1 g1 k1 h2⟩
    · cases q3
  · cases q3
theorem xe_fld {c x : Str} (hc : Cls X.K (He.ga X.K c)) (hn : NoAttr X.K (He.ga X.K c) x) (ha : XE X K a ta f) (hb : attributeBase a x X.env (eval a X.env) = eval a X.env := by rfl) : XE X K (.Attribute a x pos) (tFld K ta x) (una (dFld c x) f) := by
  have k := ha.k
  subst k
  exact ⟨rfl, pe_fld ha.p hb, ee_fld hc hn ha.s⟩
/-- a field of a hot instance -/
def hotI (e : En) (i : Nat) (c : Str) : Option (List (Str × D)) := match e[i]? with
  | some (.ow _ (.ins c' fs)) => if c' = c then some fs else none
  | _ => none
theorem Ok.hotI {B F H : Hp} {am : Nat → Addr} {σ : L2.St} {e : En} (k : Ok K B F H am σ e) {i : Nat} {c : Str} {fs : List (Str × D)} (h : hotI e i c = some fs) :
    ∃ b a dx vs, e[i]? = some (.ow b (.ins c fs)) ∧ σ[i]? = some (some (.ref a)) ∧ F a = none ∧ B a = none ∧ H a = some (.ins (He.ga K c) dx vs) ∧ RpF K F vs fs := by
  unfold Pd.hotI at h
  split at h
  · rename_i b c' fs' z
    split at h
    · rename_i hc
      subst hc
      cases Option.some.inj h
      obtain ⟨a, o, y1, y2, y3, y4, y5, _⟩ := k.ow i _ _ z
      cases y5 with
      | ins r => exact ⟨b, a, _, _, z, y1, y2, y3, y4, r⟩
    · cases h
  · cases h
def fldh (i : Nat) (c x : Str) : M D := fun e => match hotI e i c with
  | some fs => (match fs.lookup x with
    | some d => some (d, e)
    | none => none)
  | none => none
theorem ee_fldh (i : Nat) {c x : Str} (hc : Cls K (He.ga K c)) (hn : NoAttr K (He.ga K c) x) : EE K (tFld K (tVar i) x) (fldh i c x) := by
  intro B F H am σ e d e' Q k q h
  unfold fldh at q
  split at q
  · rename_i fs z
    split at q
    · rename_i d' z2
      cases Option.some.inj q
      obtain ⟨b, a, dx, vs, _, y1, y2, y3, y4, y5⟩ := k.hotI z
      obtain ⟨w, h1, h2⟩ := y5.get z2
      exact ⟨_, y1, _, _, _, _, w, rfl, y4, hc, hn, h1, h w F H (Gr.refl B F) k h2⟩
    · cases q
  · cases q
theorem xe_fldh (i : Nat) {c x y : Str} {px : Pos} (hc : Cls X.K (He.ga X.K c)) (hn : NoAttr X.K (He.ga X.K c) x) (hN : X.N[i]? = some y) (hv : Vis X.env.scope y) (hk : X.K = K := by rfl) (hd : (y == ("__debug__" : Str)) = false := by decide) (hcd : (y == ("__classdict__" : Str)) = false := by decide)
    (hb : attributeBase (.Name y px) x X.env (eval (.Name y px) X.env) = eval (.Name y px) X.env := by rfl) : XE X K (.Attribute (.Name y px) x pos) (tFld K (tVar i) x) (fldh i c x) := by
  subst hk
  exact ⟨rfl, pe_fld (pe_var hN hv hd hcd) hb, ee_fldh i hc hn⟩

/-! ### arguments, displays -/
def aNil : M (List Ar) := ret []
def aCons (f : M D) (r : M (List Ar)) : M (List Ar) := bnd f fun x => bnd r fun xs => ret (.sh x :: xs)
def aHot (i : Nat) (r : M (List Ar)) : M (List Ar) := fun e => match hotL e i with
  | some _ => bnd r (fun xs => ret (.hot i :: xs)) e
  | none => none
def lNil : M (List D) := ret []
def lCons (f : M D) (r : M (List D)) : M (List D) := bnd f fun x => bnd r fun xs => ret (x :: xs)
theorem ea_nil : EA K 0 tNil aNil := by
  intro B F H am σ e as e' Q k q h
  obtain ⟨rfl, rfl⟩ := ret_some q
  exact h [] F H (Gr.refl B F) k .nil rfl rfl
theorem ea_cons {n : Nat} {tr : TA} {r : M (List Ar)} (ha : EE K ta f) (hr : EA K n tr r) : EA K (n + 1) (tCons ta tr) (aCons f r) := by
  intro B F H am σ e as e' Q k q h
  obtain ⟨x, e1, q1, q2⟩ := bnd_some q
  obtain ⟨xs, e2, q3, q4⟩ := bnd_some q2
  obtain ⟨rfl, rfl⟩ := ret_some q4
  refine ha B F H am σ e x e1 _ k q1 fun v F1 H1 g1 k1 r1 => ?_
  refine hr B F1 H1 am σ e1 xs e' _ k1 q3 fun vs F2 H2 g2 k2 r2 l1 l2 => ?_
  exact h _ F2 H2 (g1.trans g2) k2 (.sh (r1.mono g2.1) r2) (congrArg (· + 1) l1) (congrArg (· + 1) l2)
theorem ea_hot {n : Nat} {tr : TA} {r : M (List Ar)} (i : Nat) (hr : EA K n tr r) : EA K (n + 1) (tCons (tVar i) tr) (aHot i r) := by
  intro B F H am σ e as e' Q k q h
  unfold aHot at q
  split at q
  · rename_i ds z
    obtain ⟨xs, e2, q3, q4⟩ := bnd_some q
    obtain ⟨rfl, rfl⟩ := ret_some q4
    obtain ⟨b, a, vs0, _, y1, _⟩ := k.hotL z
    refine ⟨_, y1, ?_⟩
    refine hr B F H am σ e xs e' _ k q3 fun vs F2 H2 g2 k2 r2 l1 l2 => ?_
    exact h _ F2 H2 g2 k2 (.hot y1 r2) (congrArg (· + 1) l1) (congrArg (· + 1) l2)
  · cases q
theorem el_nil : EL K 0 tNil lNil := by
  intro B F H am σ e as e' Q k q h
  obtain ⟨rfl, rfl⟩ := ret_some q
  exact h [] F H (Gr.refl B F) k .nil rfl
theorem el_cons {n : Nat} {tr : TA} {r : M (List D)} (ha : EE K ta f) (hr : EL K n tr r) : EL K (n + 1) (tCons ta tr) (lCons f r) := by
  intro B F H am σ e as e' Q k q h
  obtain ⟨x, e1, q1, q2⟩ := bnd_some q
  obtain ⟨xs, e2, q3, q4⟩ := bnd_some q2
  obtain ⟨rfl, rfl⟩ := ret_some q4
  refine ha B F H am σ e x e1 _ k q1 fun v F1 H1 g1 k1 r1 => ?_
  refine hr B F1 H1 am σ e1 xs e' _ k1 q3 fun vs F2 H2 g2 k2 r2 l1 => ?_
  exact h _ F2 H2 (g1.trans g2) k2 (.cons (r1.mono g2.1) r2) (congrArg (· + 1) l1)
theorem xa_nil (hk : X.K = K := by rfl) : XA X K 0 [] tNil aNil := ⟨hk, pa_nil, ea_nil⟩
theorem xa_cons {n : Nat} {tr : TA} {r : M (List Ar)} (ha : XE X K a ta f) (hr : XA X K n rest tr r) (hs : starEach (a :: rest) X.env = (false, eval a X.env) :: starEach rest X.env := by rfl) : XA X K (n + 1) (a :: rest) (tCons ta tr) (aCons f r) := ⟨ha.k, pa_cons ha.p hr.p hs, ea_cons ha.s hr.s⟩
theorem xa_hot {n : Nat} {tr : TA} {r : M (List Ar)} (i : Nat) {x : Str} {px : Pos} (hN : X.N[i]? = some x) (hv : Vis X.env.scope x) (hr : XA X K n rest tr r) (hs : starEach ((Expr.Name x px) :: rest) X.env = (false, eval (Expr.Name x px) X.env) :: starEach rest X.env := by rfl)
    (hd : (x == ("__debug__" : Str)) = false := by decide) (hcd : (x == ("__classdict__" : Str)) = false := by decide) : XA X K (n + 1) (.Name x px :: rest) (tCons (tVar i) tr) (aHot i r) := ⟨hr.k, pa_cons (pe_var hN hv hd hcd) hr.p hs, ea_hot i hr.s⟩
theorem xl_nil (hk : X.K = K := by rfl) : XL X K 0 [] tNil lNil := ⟨hk, pa_nil, el_nil⟩
theorem xl_cons {n : Nat} {tr : TA} {r : M (List D)} (ha : XE X K a ta f) (hr : XL X K n rest tr r) (hs : starEach (a :: rest) X.env = (false, eval a X.env) :: starEach rest X.env := by rfl) : XL X K (n + 1) (a :: rest) (tCons ta tr) (lCons f r) := ⟨ha.k, pa_cons ha.p hr.p hs, el_cons ha.s hr.s⟩
theorem small_le {n : Nat} (h : n ≤ 1000000) : n ≤ sizeLine := Nat.le_trans h (by rw [PySem.sizeLine_eq]; decide)
def mTup (r : M (List D)) : M D := bnd r fun xs => ret (.tup xs)
theorem ee_tup {n : Nat} {tr : TA} {r : M (List D)} (hn : n ≤ 1000000) (hr : EL K n tr r) : EE K (tTup tr) (mTup r) := by
  intro B F H am σ e d e' Q k q h
  obtain ⟨xs, e1, q1, q2⟩ := bnd_some q
  obtain ⟨rfl, rfl⟩ := ret_some q2
  refine hr B F H am σ e xs e' _ k q1 fun vs F1 H1 g1 k1 r1 l1 => ⟨by rw [l1]; exact small_le hn, fun p hp => ?_⟩
  obtain ⟨k2, g2⟩ := k1.new (o := .tup vs) hp
  exact h _ _ _ (g1.trans g2) k2 (.tup (SqT.of upd_same) (r1.mono g2.1))
theorem xe_tup {n x1 : Nat} {tr : TA} {r : M (List D)} (hr : XL X K n rest tr r) (hn : n ≤ 1000000 := by decide) : XE X K (.Tuple rest x1 pos) (tTup tr) (mTup r) := ⟨hr.k, pe_tup hr.p, ee_tup hn hr.s⟩
theorem ef_lst {n : Nat} {tr : TA} {r : M (List D)} (hn : n ≤ 1000000) (hr : EL K n tr r) : EF K (tLst tr) r := by
  intro B F H am σ e xs e' Q k q h
  refine hr B F H am σ e xs e' _ k q fun vs F1 H1 g1 k1 r1 l1 => ⟨by rw [l1]; exact small_le hn, fun p hp => ?_⟩
  obtain ⟨k2, z1, z2, z3⟩ := k1.newHot (o := .lst vs) hp
  exact h p vs F1 _ g1 k2 upd_same z1 z2 z3 r1
theorem xf_lst {n : Nat} {tr : TA} {r : M (List D)} (hr : XL X K n rest tr r) (hn : n ≤ 1000000 := by decide) : XF X K (.List rest pos) (tLst tr) r := ⟨hr.k, pe_lst hr.p, ef_lst hn hr.s⟩
/-- a new list as data -/
def mLst (r : M (List D)) : M D := bnd r fun xs => ret (.lst xs)
theorem ee_of_ef {r : M (List D)} (hr : EF K te r) : EE K te (mLst r) := by
  intro B F H am σ e d e' Q k q h
  obtain ⟨xs, e1, q1, q2⟩ := bnd_some q
  obtain ⟨rfl, rfl⟩ := ret_some q2
  refine hr B F H am σ e xs e' _ k q1 fun p vs F1 H1 g1 k1 z1 z2 z3 z4 r1 => ?_
  obtain ⟨k2, g2⟩ := k1.fix z1 z2 z3 z4
  exact h _ _ _ (g1.trans g2) k2 (.lst upd_same (r1.mono g2.1))
theorem xe_new {r : M (List D)} (hr : XF X K a te r) : XE X K a te (mLst r) := ⟨hr.k, hr.p, ee_of_ef hr.s⟩
end
end Pd
set_option Elab.async false
set_option linter.all false
set_option maxRecDepth 100000
set_option maxHeartbeats 1000000
namespace Pd
open PySem L2
section
variable {X : Cx} {K : PySem.W.Frag} {a b c : Expr} {rest : List Expr} {ta tb tc te : TE} {f g h : M D} {pos : Pos}

/-! ### slices -/
/-- an optional part of a slice -/
def EO (K : PySem.W.Frag) (to : TO) (f : M (Option Int)) : Prop := ∀ B F H am σ e o e' (Q : Option Int → Hp → Prop), Ok K B F H am σ e → f e = some (o, e') →
  (∀ F' H', Gr B F F' → Ok K B F' H' am σ e' → Q o H') → to σ H Q
structure XO (X : Cx) (K : PySem.W.Frag) (e : Option Expr) (to : TO) (f : M (Option Int)) : Prop where
  k : X.K = K
  p : PO X e to
  s : EO K to f
def asI (f : M D) : M (Option Int) := bnd f fun d => match d with
  | .int i => ret (some i)
  | _ => fun _ => none
theorem eo_none : EO K tNoPart (ret none) := by
  intro B F H am σ e o e' Q k q h
  obtain ⟨rfl, rfl⟩ := ret_some q
  exact h F H (Gr.refl B F) k
theorem eo_some (ha : EE K ta f) : EO K (tPart ta) (asI f) := by
  intro B F H am σ e o e' Q k q h
  obtain ⟨d, e1, q1, q2⟩ := bnd_some q
  split at q2
  · obtain ⟨rfl, rfl⟩ := ret_some q2
    refine ha B F H am σ e _ e' _ k q1 fun v F1 H1 g1 k1 r1 => ?_
    cases r1
    exact ⟨_, rfl, h F1 H1 g1 k1⟩
  · cases q2
theorem xo_none (hk : X.K = K := by rfl) : XO X K none tNoPart (ret none) := ⟨hk, po_none, eo_none⟩
theorem xo_some (ha : XE X K a ta f) : XO X K (some a) (tPart ta) (asI f) := ⟨ha.k, po_some ha.p, eo_some ha.s⟩
def cutD {α : Type} (xs : List α) (lo hi : Option Int) : List α := (xs.drop (HT.sIx xs.length 0 lo)).take (HT.sIx xs.length xs.length hi - HT.sIx xs.length 0 lo)
theorem RpL.cut {F : Hp} {vs : List V} {ds : List D} (r : RpL K F vs ds) (lo hi : Option Int) : RpL K F (cutV vs lo hi) (cutD ds lo hi) := by
  unfold cutV cutD
  rw [r.length]
  exact (r.drop _).take _
theorem RpL.rev {F : Hp} : ∀ {vs : List V} {ds : List D}, RpL K F vs ds → RpL K F vs.reverse ds.reverse
  | _, _, .nil => .nil
  | _, _, .cons h r => by
    rw [List.reverse_cons, List.reverse_cons]
    exact r.rev.append (.cons h .nil)
/-- a slice of a list: a new list -/
def mCut (f : M D) (lo hi : M (Option Int)) : M (List D) := bnd f fun x => bnd lo fun l => bnd hi fun u => match x with
  | .lst ds => ret (cutD ds l u)
  | .scr ns => ret ((cutD ns l u).map D.int)
  | _ => fun _ => none
/-- of a tuple -/
def mCutT (f : M D) (lo hi : M (Option Int)) : M D := bnd f fun x => bnd lo fun l => bnd hi fun u => match x with
  | .tup ds => ret (.tup (cutD ds l u))
  | _ => fun _ => none
theorem cut_map {α β : Type} (z : α → β) (xs : List α) (lo hi : Option Int) : cutD (xs.map z) lo hi = (cutD xs lo hi).map z := by
  unfold cutD
  rw [List.length_map, List.map_take, List.map_drop]
theorem ef_cut {lo hi : M (Option Int)} {tl th : TO} (ha : EE K ta f) (hl : EO K tl lo) (hh : EO K th hi) : EF K (tSl (rSlL K) ta tl th) (mCut f lo hi) := by
  intro B F H am σ e ds e' Q k q h
  obtain ⟨x, e1, q1, q2⟩ := bnd_some q
  obtain ⟨l, e2, q3, q4⟩ := bnd_some q2
  obtain ⟨u, e3, q5, q6⟩ := bnd_some q4
  refine ha B F H am σ e x e1 _ k q1 fun v F1 H1 g1 k1 r1 => ?_
  refine hl B F1 H1 am σ e1 l e2 _ k1 q3 fun F2 H2 g2 k2 => ?_
  refine hh B F2 H2 am σ e2 u e3 _ k2 q5 fun F3 H3 g3 k3 => ?_
  have r3 := (r1.mono g2.1).mono g3.1
  have g13 := (g1.trans g2).trans g3
  split at q6
  · rename_i xs
    obtain ⟨rfl, rfl⟩ := ret_some q6
    cases r3 with
    | lst hs r =>
      refine ⟨_, _, rfl, SqL.of (k3.fh _ _ hs), fun p hp => ?_⟩
      obtain ⟨k4, z1, z2, z3⟩ := k3.newHot (o := .lst (cutV _ l u)) hp
      exact h p _ F3 _ g13 k4 upd_same z1 z2 z3 (r.cut l u)
  · rename_i ns
    obtain ⟨rfl, rfl⟩ := ret_some q6
    cases r3 with
    | scr hs =>
      refine ⟨_, _, rfl, ex_l k3.fh hs, fun p hp => ?_⟩
      obtain ⟨k4, z1, z2, z3⟩ := k3.newHot (o := .lst (cutV (ns.map V.int) l u)) hp
      have r := (RpL.ofInts (K := K) (H := F3) ns).cut l u
      rw [cut_map] at r
      exact h p _ F3 _ g13 k4 upd_same z1 z2 z3 r
  · cases q6
theorem ee_cutT {lo hi : M (Option Int)} {tl th : TO} (ha : EE K ta f) (hl : EO K tl lo) (hh : EO K th hi) : EE K (tSl (rSlA K) ta tl th) (mCutT f lo hi) := by
  intro B F H am σ e d e' Q k q h
  obtain ⟨x, e1, q1, q2⟩ := bnd_some q
  obtain ⟨l, e2, q3, q4⟩ := bnd_some q2
  obtain ⟨u, e3, q5, q6⟩ := bnd_some q4
  refine ha B F H am σ e x e1 _ k q1 fun v F1 H1 g1 k1 r1 => ?_
  refine hl B F1 H1 am σ e1 l e2 _ k1 q3 fun F2 H2 g2 k2 => ?_
  refine hh B F2 H2 am σ e2 u e3 _ k2 q5 fun F3 H3 g3 k3 => ?_
  have r3 := (r1.mono g2.1).mono g3.1
  have g13 := (g1.trans g2).trans g3
  split at q6
  · rename_i xs
    obtain ⟨rfl, rfl⟩ := ret_some q6
    cases r3 with
    | @tup a vs _ hs r =>
      refine ⟨a, vs, rfl, ex_t k3.fh hs, fun w => ?_, fun w p hp => ?_⟩
      · have e9 : cutD xs l u = xs := by
          unfold cutD
          rw [← r.length, w.1, w.2, List.drop_zero, Nat.sub_zero, r.length, List.take_length]
        rw [e9] at h
        exact h _ F3 H3 g13 k3 (.tup hs r)
      · obtain ⟨k4, g4⟩ := k3.new (o := .tup (cutV vs l u)) hp
        exact h _ _ _ (g13.trans g4) k4 (.tup (SqT.of upd_same) ((r.cut l u).mono g4.1))
  · cases q6
theorem xf_cut {lo hi : M (Option Int)} {tl th : TO} {el eh : Option Expr} {p2 : Pos} (ha : XE X K a ta f) (hl : XO X K el tl lo) (hh : XO X K eh th hi) : XF X K (.Subscript a (.Slice el eh none p2) pos) (tSl (rSlL K) ta tl th) (mCut f lo hi) := by
  have k := ha.k
  subst k
  exact ⟨rfl, pe_slice sl_list ha.p hl.p hh.p, ef_cut ha.s hl.s hh.s⟩
theorem xe_cutT {lo hi : M (Option Int)} {tl th : TO} {el eh : Option Expr} {p2 : Pos} (ha : XE X K a ta f) (hl : XO X K el tl lo) (hh : XO X K eh th hi) : XE X K (.Subscript a (.Slice el eh none p2) pos) (tSl (rSlA K) ta tl th) (mCutT f lo hi) := by
  have k := ha.k
  subst k
  exact ⟨rfl, pe_slice sl_tupA ha.p hl.p hh.p, ee_cutT ha.s hl.s hh.s⟩

/-! ### lists and tuples put together -/
def mCat (f g : M (List D)) : M (List D) := bnd f fun x => bnd g fun y => fun e => if x.length + y.length ≤ 1000000 then some (x ++ y, e) else none
theorem ef_cat {r s : M (List D)} (ha : EF K ta r) (hb : EF K tb s) : EF K (tOp rCat ta tb) (mCat r s) := by
  intro B F H am σ e ds e' Q k q h
  obtain ⟨x, e1, q1, q2⟩ := bnd_some q
  obtain ⟨y, e2, q3, q4⟩ := bnd_some q2
  split at q4
  · rename_i hz
    cases Option.some.inj q4
    refine ha B F H am σ e x e1 _ k q1 fun p vs F1 H1 g1 k1 z1 z2 z3 z4 r1 => ?_
    obtain ⟨k1', g1'⟩ := k1.fix z1 z2 z3 z4
    refine hb B _ H1 am σ e1 y e' _ k1' q3 fun p2 ws F2 H2 g2 k2 y1 y2 y3 y4 r2 => ?_
    have hp : H2 p = some (.lst vs) := k2.fh _ _ (g2.1 _ _ upd_same)
    refine ⟨p, p2, vs, ws, rfl, rfl, hp, y1, by rw [r1.length, r2.length]; exact small_le hz, fun l hl => ?_⟩
    obtain ⟨k4, w1, w2, w3⟩ := k2.newHot (o := .lst (vs ++ ws)) hl
    exact h l _ F2 _ ((g1.trans g1').trans g2) k4 upd_same w1 w2 w3 (((r1.mono g1'.1).mono g2.1).append r2)
  · cases q4
theorem xf_cat {r s : M (List D)} (ha : XF X K a ta r) (hb : XF X K b tb s) : XF X K (.BinOp a .Add b pos) (tOp rCat ta tb) (mCat r s) := ⟨ha.k, pe_op op_cat ha.p hb.p, ef_cat ha.s hb.s⟩
/-- a list that is data, as an operand of + -/
def asL (f : M D) : M (List D) := bnd f fun x => match x with
  | .lst ds => ret ds
  | _ => fun _ => none
def mCatD (f g : M D) : M (List D) := bnd f fun x => bnd g fun y => fun e => match x, y with
  | .lst xs, .lst ys => if xs.length + ys.length ≤ 1000000 then some (xs ++ ys, e) else none
  | _, _ => none
theorem ef_catD (ha : EE K ta f) (hb : EE K tb g) : EF K (tOp rCat ta tb) (mCatD f g) := by
  intro B F H am σ e ds e' Q k q h
  obtain ⟨x, e1, q1, q2⟩ := bnd_some q
  obtain ⟨y, e2, q3, q4⟩ := bnd_some q2
  split at q4
  · split at q4
    · rename_i hz
      cases Option.some.inj q4
      refine ha B F H am σ e _ e1 _ k q1 fun v F1 H1 g1 k1 r1 => ?_
      refine hb B F1 H1 am σ e1 _ e' _ k1 q3 fun u F2 H2 g2 k2 r2 => ?_
      have r1' := r1.mono g2.1
      cases r1' with
      | lst s1 t1 =>
        cases r2 with
        | lst s2 t2 =>
          refine ⟨_, _, _, _, rfl, rfl, k2.fh _ _ s1, k2.fh _ _ s2, by rw [t1.length, t2.length]; exact small_le hz, fun l hl => ?_⟩
          obtain ⟨k4, w1, w2, w3⟩ := k2.newHot (o := .lst (_ ++ _)) hl
          exact h l _ F2 _ (g1.trans g2) k4 upd_same w1 w2 w3 (t1.append t2)
    · cases q4
  · cases q4
theorem xf_catD (ha : XE X K a ta f) (hb : XE X K b tb g) : XF X K (.BinOp a .Add b pos) (tOp rCat ta tb) (mCatD f g) := ⟨ha.k, pe_op op_cat ha.p hb.p, ef_catD ha.s hb.s⟩
def mCatT (f g : M D) : M D := bnd f fun x => bnd g fun y => fun e => match x, y with
  | .tup xs, .tup ys => if xs.length + ys.length ≤ 1000000 then some (.tup (xs ++ ys), e) else none
  | _, _ => none
theorem ee_catT (ha : EE K ta f) (hb : EE K tb g) : EE K (tOp (rCatA K) ta tb) (mCatT f g) := by
  intro B F H am σ e d e' Q k q h
  obtain ⟨x, e1, q1, q2⟩ := bnd_some q
  obtain ⟨y, e2, q3, q4⟩ := bnd_some q2
  split at q4
  · rename_i xs ys
    split at q4
    · rename_i hz
      cases Option.some.inj q4
      refine ha B F H am σ e _ e1 _ k q1 fun v F1 H1 g1 k1 r1 => ?_
      refine hb B F1 H1 am σ e1 _ e' _ k1 q3 fun u F2 H2 g2 k2 r2 => ?_
      have r1' := r1.mono g2.1
      cases r1' with
      | @tup a1 v1 _ s1 t1 =>
        cases r2 with
        | @tup a2 v2 _ s2 t2 =>
          have g12 := g1.trans g2
          refine ⟨a1, a2, v1, v2, rfl, rfl, ex_t k2.fh s1, ex_t k2.fh s2, by rw [t1.length, t2.length]; exact small_le hz, fun w => ?_, fun w1 w2 => ?_, fun _ _ p hp => ?_⟩
          · subst w
            cases t1
            exact h _ F2 H2 g12 k2 (.tup s2 t2)
          · subst w2
            cases t2
            rw [List.append_nil] at h
            exact h _ F2 H2 g12 k2 (.tup s1 t1)
          · obtain ⟨k4, g4⟩ := k2.new (o := .tup (v1 ++ v2)) hp
            exact h _ _ _ (g12.trans g4) k4 (.tup (SqT.of upd_same) ((t1.append t2).mono g4.1))
    · cases q4
  · cases q4
theorem xe_catT (ha : XE X K a ta f) (hb : XE X K b tb g) : XE X K (.BinOp a .Add b pos) (tOp (rCatA K) ta tb) (mCatT f g) := by
  have k := ha.k
  subst k
  exact ⟨rfl, pe_op op_catA ha.p hb.p, ee_catT ha.s hb.s⟩

/-! ### what is walked -/
theorem Yl.of {B F : Hp} {J : It} {ds : List D} (h : ∀ F1 H, Ex F F1 → Ex F1 H → ∀ i : Nat, (ds.length ≤ i → J.stop i H) ∧ ∀ d, ds[i]? = some d → J.go i H ∧ ∀ x H', J.yld i H x H' → H' = H ∧ Rp K F1 x d) : Yl K B F J ds := by
  intro F1 H am σ e g1 k1 i
  obtain ⟨h1, h2⟩ := h F1 H g1.1 k1.fh i
  refine ⟨h1, fun d hd => ⟨(h2 d hd).1, fun x H' y => ?_⟩⟩
  obtain ⟨rfl, r⟩ := (h2 d hd).2 x H' y
  exact ⟨F1, Gr.refl B F1, k1, r⟩
theorem yl_list {B F : Hp} {a : Addr} {vs : List V} {ds : List D} (hs : ∀ H, Ex F H → SqL K H a vs) (r : RpL K F vs ds) : Yl K B F (Itl K a) ds := Yl.of fun F1 H e1 e2 i => by
  refine ⟨fun l => ⟨vs, hs H (e1.trans e2), by rw [r.length]; exact l⟩, fun d hd => ?_⟩
  obtain ⟨v, h1, h2⟩ := r.get hd
  refine ⟨⟨vs, v, hs H (e1.trans e2), h1⟩, fun x H' y => ⟨y.1, ?_⟩⟩
  have z := y.2 vs (hs H (e1.trans e2))
  rw [h1] at z
  cases Option.some.inj z
  exact h2.mono e1
theorem yl_tup {B F : Hp} {a : Addr} {vs : List V} {ds : List D} (hs : ∀ H, Ex F H → SqT K H a vs) (r : RpL K F vs ds) : Yl K B F (Itt K a) ds := Yl.of fun F1 H e1 e2 i => by
  refine ⟨fun l => ⟨vs, hs H (e1.trans e2), by rw [r.length]; exact l⟩, fun d hd => ?_⟩
  obtain ⟨v, h1, h2⟩ := r.get hd
  refine ⟨⟨vs, v, hs H (e1.trans e2), h1⟩, fun x H' y => ⟨y.1, ?_⟩⟩
  have z := y.2 vs (hs H (e1.trans e2))
  rw [h1] at z
  cases Option.some.inj z
  exact h2.mono e1
/-- rngD lo, lo + 1, .. -/
def rngD (lo : Int) (n : Nat) : List D := (List.range n).map fun i => D.int (lo + (i : Nat))
theorem yl_range {B F : Hp} {lo : Int} {n : Nat} : Yl K B F (Itr lo n) (rngD lo n) := Yl.of fun F1 H e1 e2 i => by
  unfold rngD
  refine ⟨fun l => by rw [List.length_map, List.length_range] at l; exact l, fun d hd => ?_⟩
  rw [List.getElem?_map] at hd
  by_cases hi : i < n
  · rw [List.getElem?_range hi] at hd
    cases Option.some.inj hd
    exact ⟨hi, fun x H' y => ⟨y.1, by rw [y.2]; exact .int _⟩⟩
  · rw [List.getElem?_eq_none (by rw [List.length_range]; omega)] at hd
    cases hd
/-- list or tuple -/
def iSeq (K : PySem.W.Frag) (tl : TE) : TI := fun σ H R => tl σ H fun x H1 => ∃ a, x = .ref a ∧ (((∃ xs, SqL K H1 a xs) ∧ R (Itl K a) H1) ∨ ((∃ xs, SqT K H1 a xs) ∧ R (Itt K a) H1))
theorem pi_seq {tg l : Expr} {tl : TE} (hl : PE X l tl) : PI X tg l (iSeq X.K tl) := by
  refine ⟨fun pins s σ H R I h => ?_⟩
  refine thn (hl.run pins s σ H _ I h) fun v s1 ⟨x, H1, I1, r1, q1⟩ => ?_
  obtain ⟨a, e, q⟩ := q1
  subst e
  cases r1
  rcases q with ⟨⟨xs, hq⟩, q⟩ | ⟨⟨xs, hq⟩, q⟩
  · obtain ⟨its, rv, p, hz⟩ := I1.list hq
    refine wpAny_pyIter_list p.isList ?_
    refine ⟨s1.heap.objs.size, [s1.heap.objs.size], _, _, H1, rfl, I1.kept (t' := s1.toks) fun b o e => Heap.get?_push_of_some _ e, turn_list a _, ⟨_, Heap.get?_push_size _ rfl, rfl, rfl⟩, fun b hb => ?_, q⟩
    have e : b = s1.heap.objs.size := by simpa using hb
    subst e
    exact I1.fpOk (Nat.le_refl _) (I1.hok.fresh (Nat.le_refl _))
  · obtain ⟨its, rv, p, hz⟩ := I1.tuple hq
    refine wpAny_pyIter_tuple (show s1.heap.IsTuple a its.toArray from p) ?_
    refine ⟨s1.heap.objs.size, [s1.heap.objs.size], _, _, H1, rfl, I1.kept (t' := s1.toks) fun b o e => Heap.get?_push_of_some _ e, turn_tuple a _, ⟨_, Heap.get?_push_size _ rfl, rfl, rfl⟩, fun b hb => ?_, q⟩
    have e : b = s1.heap.objs.size := by simpa using hb
    subst e
    exact I1.fpOk (Nat.le_refl _) (I1.hok.fresh (Nat.le_refl _))
def mSeq (f : M D) : M (List D) := bnd f fun x => match x with
  | .lst ds => ret ds
  | .tup ds => ret ds
  | .scr ns => ret (ns.map D.int)
  | _ => fun _ => none
theorem ei_seq (ha : EE K ta f) : EI K (iSeq K ta) (mSeq f) := by
  intro B F H am σ e ds e' R k q h
  obtain ⟨x, e1, q1, q2⟩ := bnd_some q
  refine ha B F H am σ e x e1 _ k q1 fun v F1 H1 g1 k1 r1 => ?_
  split at q2
  · obtain ⟨rfl, rfl⟩ := ret_some q2
    cases r1 with
    | lst hs r => exact ⟨_, rfl, .inl ⟨⟨_, SqL.of (k1.fh _ _ hs)⟩, h _ F1 H1 g1 k1 fun B' => yl_list (fun H e => SqL.of (e _ _ hs)) r⟩⟩
  · obtain ⟨rfl, rfl⟩ := ret_some q2
    cases r1 with
    | tup hs r => exact ⟨_, rfl, .inr ⟨⟨_, ex_t k1.fh hs⟩, h _ F1 H1 g1 k1 fun B' => yl_tup (fun H e => ex_t e hs) r⟩⟩
  · obtain ⟨rfl, rfl⟩ := ret_some q2
    cases r1 with
    | scr hs => exact ⟨_, rfl, .inl ⟨⟨_, ex_l k1.fh hs⟩, h _ F1 H1 g1 k1 fun B' => yl_list (fun H e => ex_l e hs) (RpL.ofInts _)⟩⟩
  · cases q2
theorem xi_seq {tg : Expr} (ha : XE X K a ta f) : XI X K tg a (iSeq K ta) (mSeq f) := by
  have k := ha.k
  subst k
  exact ⟨rfl, pi_seq ha.p, ei_seq ha.s⟩
/-- a new list, walked -/
theorem ei_new {r : M (List D)} (ha : EF K ta r) : EI K (iList K ta) r := by
  intro B F H am σ e ds e' R k q h
  refine ha B F H am σ e ds e' _ k q fun p vs F1 H1 g1 k1 z1 z2 z3 z4 r1 => ?_
  obtain ⟨k2, g2⟩ := k1.fix z1 z2 z3 z4
  exact ⟨p, rfl, ⟨_, SqL.of z1⟩, h _ _ _ (g1.trans g2) k2 fun B' => yl_list (fun H e => SqL.of (e _ _ upd_same)) (r1.mono g2.1)⟩
theorem xi_new {tg : Expr} {r : M (List D)} (ha : XF X K a ta r) : XI X K tg a (iList K ta) r := by
  have k := ha.k
  subst k
  exact ⟨rfl, pi_list ha.p, ei_new ha.s⟩
def mRng1 (f : M D) : M (List D) := bnd f fun x => fun e => match x with
  | .int j => if j.natAbs < 4611686018427387904 then some (rngD 0 j.toNat, e) else none
  | _ => none
theorem ei_rng1 (ha : EE K ta f) : EI K (iRng1 (tCons ta tNil)) (mRng1 f) := by
  intro B F H am σ e ds e' R k q h
  obtain ⟨x, e1, q1, q2⟩ := bnd_some q
  refine ha B F H am σ e x e1 _ k q1 fun v F1 H1 g1 k1 r1 => ?_
  split at q2
  · split at q2
    · rename_i hj
      cases Option.some.inj q2
      cases r1
      exact ⟨_, rfl, by omega, by omega, h _ F1 H1 g1 k1 fun B' => yl_range⟩
    · cases q2
  · cases q2
theorem xi_rng1 {tg : Expr} {p : Pos} (hm : X.mg "range" = none) (ha : XE X K a ta f) (hg : Gl X "range" := by rfl) (hs : starEach [a] X.env = [(false, eval a X.env)] := by rfl) (hs2 : starEach (a :: []) X.env = (false, eval a X.env) :: starEach [] X.env := by rfl) :
    XI X K tg (.Call (.Name "range" p) [a] [] pos) (iRng1 (tCons ta tNil)) (mRng1 f) := ⟨ha.k, pi_range1 hg hm (pa_cons ha.p pa_nil hs2) hs, ei_rng1 ha.s⟩
def mRng2 (f g : M D) : M (List D) := bnd f fun x => bnd g fun y => fun e => match x, y with
  | .int i, .int j => if i.natAbs < 4611686018427387904 ∧ j.natAbs < 4611686018427387904 then some (rngD i (j - i).toNat, e) else none
  | _, _ => none
theorem ei_rng2 (ha : EE K ta f) (hb : EE K tb g) : EI K (iRng2 (tCons ta (tCons tb tNil))) (mRng2 f g) := by
  intro B F H am σ e ds e' R k q h
  obtain ⟨x, e1, q1, q2⟩ := bnd_some q
  obtain ⟨y, e2, q3, q4⟩ := bnd_some q2
  refine ha B F H am σ e x e1 _ k q1 fun v F1 H1 g1 k1 r1 => ?_
  refine hb B F1 H1 am σ e1 y e2 _ k1 q3 fun u F2 H2 g2 k2 r2 => ?_
  split at q4
  · split at q4
    · rename_i hj
      cases Option.some.inj q4
      cases r1
      cases r2
      exact ⟨_, _, rfl, ⟨by omega, by omega, by omega, by omega⟩, h _ F2 H2 (g1.trans g2) k2 fun B' => yl_range⟩
    · cases q4
  · cases q4
theorem xi_rng2 {tg : Expr} {p : Pos} (hm : X.mg "range" = none) (ha : XE X K a ta f) (hb : XE X K b tb g) (hg : Gl X "range" := by rfl) (hs : starEach [a, b] X.env = [(false, eval a X.env), (false, eval b X.env)] := by rfl) (hs2 : starEach [b] X.env = [(false, eval b X.env)] := by rfl)
    (hs3 : starEach (a :: [b]) X.env = (false, eval a X.env) :: starEach [b] X.env := by rfl) (hs4 : starEach (b :: []) X.env = (false, eval b X.env) :: starEach [] X.env := by rfl) :
    XI X K tg (.Call (.Name "range" p) [a, b] [] pos) (iRng2 (tCons ta (tCons tb tNil))) (mRng2 f g) := ⟨ha.k, pi_range2 hg hm (pa_cons ha.p (pa_cons hb.p pa_nil hs4) hs3) hs hs2, ei_rng2 ha.s hb.s⟩
/-- enumerate(list) -/
def enumD : Nat → List D → List D
  | _, [] => []
  | k, d :: ds => .tup [.int (k : Nat), d] :: enumD (k + 1) ds
theorem enumD_len : ∀ (k : Nat) (ds : List D), (enumD k ds).length = ds.length
  | _, [] => rfl
  | k, _ :: ds => congrArg (· + 1) (enumD_len (k + 1) ds)
theorem enumD_get : ∀ (k : Nat) (ds : List D) (i : Nat) (x : D), (enumD k ds)[i]? = some x → ∃ d, ds[i]? = some d ∧ x = .tup [.int ((k + i : Nat) : Int), d]
  | _, [], i, x, h => by cases h
  | k, d :: ds, 0, x, h => ⟨d, rfl, (Option.some.inj h).symm⟩
  | k, _ :: ds, i + 1, x, h => by
    obtain ⟨d, h1, h2⟩ := enumD_get (k + 1) ds i x h
    exact ⟨d, h1, by rw [h2, Nat.add_right_comm, Nat.add_assoc]⟩
theorem yl_enum {B F : Hp} {a : Addr} {vs : List V} {ds : List D} (hs : ∀ H, Ex F H → SqL K H a vs) (r : RpL K F vs ds) : Yl K B F (Ite K a) (enumD 0 ds) := by
  intro F1 H am σ e g1 k1 i
  have e2 := g1.1.trans k1.fh
  refine ⟨fun l => ⟨vs, hs H e2, by rw [r.length]; rw [enumD_len] at l; exact l⟩, fun d hd => ?_⟩
  obtain ⟨d', h1, rfl⟩ := enumD_get 0 ds i d hd
  obtain ⟨v, h3, h4⟩ := r.get h1
  refine ⟨⟨vs, v, hs H e2, h3⟩, fun x H' y => ?_⟩
  obtain ⟨T, w, rfl, hT, rfl, hw⟩ := y
  have z := hw vs (hs H e2)
  rw [h3] at z
  cases Option.some.inj z
  obtain ⟨k2, g2⟩ := k1.new (o := .tup [.int (i : Nat), v]) hT
  refine ⟨_, g2, k2, .tup (SqT.of upd_same) ?_⟩
  rw [Nat.zero_add]
  exact .cons (.int _) (.cons ((h4.mono g1.1).mono g2.1) .nil)
def mEnum (f : M D) : M (List D) := bnd f fun x => match x with
  | .lst ds => ret (enumD 0 ds)
  | .scr ns => ret (enumD 0 (ns.map D.int))
  | _ => fun _ => none
theorem ei_enum (ha : EE K ta f) : EI K (iEnum K (tCons ta tNil)) (mEnum f) := by
  intro B F H am σ e ds e' R k q h
  obtain ⟨x, e1, q1, q2⟩ := bnd_some q
  refine ha B F H am σ e x e1 _ k q1 fun v F1 H1 g1 k1 r1 => ?_
  split at q2
  · obtain ⟨rfl, rfl⟩ := ret_some q2
    cases r1 with
    | lst hs r => exact ⟨_, _, rfl, SqL.of (k1.fh _ _ hs), h _ F1 H1 g1 k1 fun B' => yl_enum (fun H e => SqL.of (e _ _ hs)) r⟩
  · obtain ⟨rfl, rfl⟩ := ret_some q2
    cases r1 with
    | scr hs => exact ⟨_, _, rfl, ex_l k1.fh hs, h _ F1 H1 g1 k1 fun B' => yl_enum (fun H e => ex_l e hs) (RpL.ofInts _)⟩
  · cases q2
theorem yl_zipL {B F : Hp} {a b : Addr} {vs ws : List V} {ds es : List D} (hs : ∀ H, Ex F H → SqL K H a vs) (r : RpL K F vs ds) (ht : ∀ H, Ex F H → SqL K H b ws) (q : RpL K F ws es) : Yl K B F (Itz K a b) (List.zipWith (fun x y => .tup [x, y]) ds es) := by
  intro F1 H am σ e g1 k1 i
  have e2 := g1.1.trans k1.fh
  refine ⟨fun l => ⟨vs, ws, hs H e2, ht H e2, by rw [r.length, q.length]; rw [List.length_zipWith] at l; omega⟩, fun d hd => ?_⟩
  rw [List.getElem?_zipWith] at hd
  cases z1 : ds[i]? with
  | none =>
    rw [z1] at hd
    cases hd
  | some x =>
    cases z2 : es[i]? with
    | none =>
      rw [z1, z2] at hd
      cases hd
    | some y =>
      rw [z1, z2] at hd
      cases Option.some.inj hd
      obtain ⟨v, h1, h2⟩ := r.get z1
      obtain ⟨w, h3, h4⟩ := q.get z2
      refine ⟨⟨vs, ws, v, w, hs H e2, ht H e2, h1, h3⟩, fun x H' y => ?_⟩
      obtain ⟨T, v', w', rfl, hT, rfl, y1, y2⟩ := y
      have u1 := y1 vs (hs H e2)
      rw [h1] at u1
      cases Option.some.inj u1
      have u2 := y2 ws (ht H e2)
      rw [h3] at u2
      cases Option.some.inj u2
      obtain ⟨k2, g2⟩ := k1.new (o := .tup [v, w]) hT
      exact ⟨_, g2, k2, .tup (SqT.of upd_same) (.cons ((h2.mono g1.1).mono g2.1) (.cons ((h4.mono g1.1).mono g2.1) .nil))⟩
theorem yl_zipT {B F : Hp} {a b : Addr} {vs ws : List V} {ds es : List D} (hs : ∀ H, Ex F H → SqT K H a vs) (r : RpL K F vs ds) (ht : ∀ H, Ex F H → SqT K H b ws) (q : RpL K F ws es) : Yl K B F (RZ.ItzT K a b) (List.zipWith (fun x y => .tup [x, y]) ds es) := by
  intro F1 H am σ e g1 k1 i
  have e2 := g1.1.trans k1.fh
  refine ⟨fun l => ⟨vs, ws, hs H e2, ht H e2, by rw [r.length, q.length]; rw [List.length_zipWith] at l; omega⟩, fun d hd => ?_⟩
  rw [List.getElem?_zipWith] at hd
  cases z1 : ds[i]? with
  | none =>
    rw [z1] at hd
    cases hd
  | some x =>
    cases z2 : es[i]? with
    | none =>
      rw [z1, z2] at hd
      cases hd
    | some y =>
      rw [z1, z2] at hd
      cases Option.some.inj hd
      obtain ⟨v, h1, h2⟩ := r.get z1
      obtain ⟨w, h3, h4⟩ := q.get z2
      refine ⟨⟨vs, ws, v, w, hs H e2, ht H e2, h1, h3⟩, fun x H' y => ?_⟩
      obtain ⟨T, v', w', rfl, hT, rfl, y1, y2⟩ := y
      have u1 := y1 vs (hs H e2)
      rw [h1] at u1
      cases Option.some.inj u1
      have u2 := y2 ws (ht H e2)
      rw [h3] at u2
      cases Option.some.inj u2
      obtain ⟨k2, g2⟩ := k1.new (o := .tup [v, w]) hT
      exact ⟨_, g2, k2, .tup (SqT.of upd_same) (.cons ((h2.mono g1.1).mono g2.1) (.cons ((h4.mono g1.1).mono g2.1) .nil))⟩
def mZip (f g : M D) : M (List D) := bnd f fun x => bnd g fun y => match x, y with
  | .lst xs, .lst ys => ret (List.zipWith (fun x y => .tup [x, y]) xs ys)
  | .tup xs, .tup ys => ret (List.zipWith (fun x y => .tup [x, y]) xs ys)
  | _, _ => fun _ => none
theorem ei_zip (ha : EE K ta f) (hb : EE K tb g) : EI K (RZ.iZipA K (tCons ta (tCons tb tNil))) (mZip f g) := by
  intro B F H am σ e ds e' R k q h
  obtain ⟨x, e1, q1, q2⟩ := bnd_some q
  obtain ⟨y, e2, q3, q4⟩ := bnd_some q2
  refine ha B F H am σ e x e1 _ k q1 fun v F1 H1 g1 k1 r1 => ?_
  refine hb B F1 H1 am σ e1 y e2 _ k1 q3 fun u F2 H2 g2 k2 r2 => ?_
  have r1' := r1.mono g2.1
  split at q4
  · obtain ⟨rfl, rfl⟩ := ret_some q4
    cases r1' with
    | lst s1 t1 =>
      cases r2 with
      | lst s2 t2 => exact ⟨_, _, _, _, rfl, .inl ⟨SqL.of (k2.fh _ _ s1), SqL.of (k2.fh _ _ s2), h _ F2 H2 (g1.trans g2) k2 fun B' => yl_zipL (fun H e => SqL.of (e _ _ s1)) t1 (fun H e => SqL.of (e _ _ s2)) t2⟩⟩
  · obtain ⟨rfl, rfl⟩ := ret_some q4
    cases r1' with
    | tup s1 t1 =>
      cases r2 with
      | tup s2 t2 => exact ⟨_, _, _, _, rfl, .inr ⟨ex_t k2.fh s1, ex_t k2.fh s2, h _ F2 H2 (g1.trans g2) k2 fun B' => yl_zipT (fun H e => ex_t e s1) t1 (fun H e => ex_t e s2) t2⟩⟩
  · cases q4
theorem xi_enum {elts : List Expr} {kk : Nat} {p tpos : Pos} (hm : X.mg "enumerate" = none) (ha : XE X K a ta f) (hg : Gl X "enumerate" := by rfl) (hs : starEach [a] X.env = [(false, eval a X.env)] := by rfl) (hs2 : starEach (a :: []) X.env = (false, eval a X.env) :: starEach [] X.env := by rfl) :
    XI X K (.Tuple elts kk tpos) (.Call (.Name "enumerate" p) [a] [] pos) (iEnum K (tCons ta tNil)) (mEnum f) := by
  have k := ha.k
  subst k
  exact ⟨rfl, pi_enum hg hm (pa_cons ha.p pa_nil hs2) hs, ei_enum ha.s⟩
end
end Pd
set_option Elab.async false
set_option linter.all false
set_option maxRecDepth 100000
set_option maxHeartbeats 1000000
namespace Pd
open PySem L2
section
variable {X : Cx} {K : PySem.W.Frag} {a b c : Expr} {rest : List Expr} {ta tb tc te : TE} {f g h : M D} {pos : Pos}
theorem xi_zip {elts : List Expr} {kk : Nat} {p tpos : Pos} (hm : X.mg "zip" = none) (ha : XE X K a ta f) (hb : XE X K b tb g) (hg : Gl X "zip" := by rfl) (hs : starEach [a, b] X.env = (false, eval a X.env) :: starEach [b] X.env := by rfl) (hs3 : ((backTo pos (starEach [b] X.env)).any fun x => x.1) = false := by rfl)
    (hs4 : starEach (b :: []) X.env = (false, eval b X.env) :: starEach [] X.env := by rfl) :
    XI X K (.Tuple elts kk tpos) (.Call (.Name "zip" p) [a, b] [] pos) (RZ.iZipA K (tCons ta (tCons tb tNil))) (mZip f g) := by
  have k := ha.k
  subst k
  exact ⟨rfl, RZ.pi_zipA hg hm (pa_cons ha.p (pa_cons hb.p pa_nil hs4) hs) hs hs3, ei_zip ha.s hb.s⟩

/-! ### targets: js, the slots that are set -/
def Chg (js : List Nat) (σ σ' : L2.St) : Prop := ∀ vs : List Nat, (∀ j ∈ js, j ∈ vs) → wipe σ' vs = wipe σ vs
theorem wipe_at (σ : L2.St) (j : Nat) : ∀ vs : List Nat, (wipe σ vs)[j]? = if j ∈ vs then (σ[j]?).map (fun _ => none) else σ[j]?
  | [] => by simp [wipe]
  | v :: vs => by
    have ih := wipe_at σ j vs
    unfold wipe
    by_cases h : v = j
    · subst h
      rw [List.getElem?_set_self', ih]
      by_cases h2 : v ∈ vs
      · simp [h2]
        cases σ[v]? <;> rfl
      · simp [h2]
        cases σ[v]? <;> rfl
    · rw [List.getElem?_set_ne h, ih]
      by_cases h2 : j ∈ vs
      · rw [if_pos h2, if_pos (List.mem_cons_of_mem _ h2)]
      · rw [if_neg h2, if_neg (fun z => (List.mem_cons.mp z).elim (fun w => h w.symm) h2)]
theorem Chg.refl (σ : L2.St) : Chg [] σ σ := fun _ _ => rfl
theorem Chg.set (σ : L2.St) (i : Nat) (x : V) : Chg [i] σ (σ.set i (some x)) := fun vs h => by
  have hi : i ∈ vs := h i (by simp)
  apply List.ext_getElem?
  intro j
  rw [wipe_at, wipe_at]
  by_cases ij : i = j
  · subst ij
    rw [if_pos hi, if_pos hi, List.getElem?_set_self']
    cases σ[i]? <;> rfl
  · rw [List.getElem?_set_ne ij]
theorem Chg.trans {js ls : List Nat} {σ σ1 σ2 : L2.St} (a : Chg js σ σ1) (b : Chg ls σ1 σ2) : Chg (js ++ ls) σ σ2 := fun vs h =>
  (b vs fun j hj => h j (List.mem_append_right _ hj)).trans (a vs fun j hj => h j (List.mem_append_left _ hj))
def EGs (K : PySem.W.Frag) (js : List Nat) (g : TG) (set : D → En → Option En) : Prop := ∀ B F H am σ e v d e' (Q : L2.St → Hp → Prop), Ok K B F H am σ e → Rp K F v d → set d e = some e' →
  (∀ σ' F' H', Gr B F F' → Ok K B F' H' am σ' e' → Chg js σ σ' → Q σ' H') → g v σ H Q
def EGL (K : PySem.W.Frag) (js : List Nat) (g : TGs) (set : List D → En → Option En) : Prop := ∀ B F H am σ e vs ds e' (Q : L2.St → Hp → Prop), Ok K B F H am σ e → RpL K F vs ds → set ds e = some e' →
  (∀ σ' F' H', Gr B F F' → Ok K B F' H' am σ' e' → Chg js σ σ' → Q σ' H') → g vs σ H Q
structure XGs (X : Cx) (K : PySem.W.Frag) (js : List Nat) (tg : Expr) (g : TG) (set : D → En → Option En) : Prop where
  k : X.K = K
  p : PG X tg g
  s : EGs K js g set
structure XGL (X : Cx) (K : PySem.W.Frag) (js : List Nat) (es : List Expr) (g : TGs) (set : List D → En → Option En) : Prop where
  k : X.K = K
  p : PGs X es g
  s : EGL K js g set
/-- a name is set: not that of a hot parameter -/
def setN (i : Nat) (d : D) (e : En) : Option En := match e[i]? with
  | some (.ow true _) => none
  | some _ => some (e.set i (.sh d))
  | none => none
theorem eg_name (i : Nat) : EGs K [i] (gName i) (setN i) := by
  intro B F H am σ e v d e' Q k r q h
  unfold setN at q
  split at q
  · cases q
  · cases Option.some.inj q
    exact h _ F H (Gr.refl B F) (k.set r) (Chg.set σ i v)
  · cases q
theorem xg_name (i : Nat) {x : Str} (hN : X.N.Nodup) (hi : X.N[i]? = some x) (hx : Loc X.env.scope x) (hk : X.K = K := by rfl) (hf : X.fn x = true ∨ X.env.scope.names.lookup x = some .local := by first | exact .inl rfl | exact .inr rfl | assumption) : XGs X K [i] (.Name x pos) (gName i) (setN i) := ⟨hk, pg_name hN hi hx hf, eg_name i⟩
def setNil (ds : List D) (e : En) : Option En := match ds with
  | [] => some e
  | _ => none
def setCons (s : D → En → Option En) (r : List D → En → Option En) (ds : List D) (e : En) : Option En := match ds with
  | d :: ds => (match s d e with
    | some e1 => r ds e1
    | none => none)
  | [] => none
theorem egl_nil : EGL K [] gNil setNil := by
  intro B F H am σ e vs ds e' Q k r q h
  unfold setNil at q
  split at q
  · cases Option.some.inj q
    cases r
    exact ⟨rfl, h σ F H (Gr.refl B F) k (Chg.refl σ)⟩
  · cases q
theorem egl_cons {js ls : List Nat} {gt : TG} {gr : TGs} {s : D → En → Option En} {r : List D → En → Option En} (h1 : EGs K js gt s) (h2 : EGL K ls gr r) : EGL K (js ++ ls) (gCons gt gr) (setCons s r) := by
  intro B F H am σ e vs ds e' Q k rr q h
  unfold setCons at q
  split at q
  · rename_i d ds
    split at q
    · rename_i e1 z
      cases rr with
      | cons r1 r2 =>
        exact ⟨_, _, rfl, h1 B F H am σ e _ d e1 _ k r1 z fun σ1 F1 H1 g1 k1 c1 =>
            h2 B F1 H1 am σ1 e1 _ _ e' Q k1 (r2.mono g1.1) q fun σ2 F2 H2 g2 k2 c2 => h σ2 F2 H2 (g1.trans g2) k2 (c1.trans c2)⟩
    · cases q
  · cases q
theorem xgl_nil (hk : X.K = K := by rfl) : XGL X K [] [] gNil setNil := ⟨hk, pgs_nil, egl_nil⟩
theorem xgl_cons {js ls : List Nat} {gt : TG} {gr : TGs} {s : D → En → Option En} {r : List D → En → Option En} (h1 : XGs X K js a gt s) (h2 : XGL X K ls rest gr r)
    (hs : (assignEach (a :: rest) X.env).map (·.2) = assign a X.env :: (assignEach rest X.env).map (·.2) := by rfl) : XGL X K (js ++ ls) (a :: rest) (gCons gt gr) (setCons s r) := ⟨h1.k, pgs_cons h1.p h2.p hs, egl_cons h1.s h2.s⟩
def setT (n : Nat) (s : List D → En → Option En) (d : D) (e : En) : Option En := match d with
  | .tup ds => if ds.length = n then s ds e else none
  | _ => none
theorem eg_tup {js : List Nat} {n : Nat} {t : TGs} {s : List D → En → Option En} (h1 : EGL K js t s) : EGs K js (gTup K n t) (setT n s) := by
  intro B F H am σ e v d e' Q k r q h
  unfold setT at q
  split at q
  · split at q
    · rename_i hn
      cases r with
      | tup hs rr => exact ⟨_, _, rfl, ex_t k.fh hs, rr.length.trans hn, h1 B F H am σ e _ _ e' Q k rr q h⟩
    · cases q
  · cases q
theorem xg_tup {js : List Nat} {kk n : Nat} {t : TGs} {s : List D → En → Option En} (hc : X.calm = true) (h1 : XGL X K js rest t s) (hn : (assignEach rest X.env).length = n := by rfl) (hst : (assignEach rest X.env).findIdx? (·.1) = none := by rfl) :
    XGs X K js (.Tuple rest kk pos) (gTup K n t) (setT n s) := by
  have k := h1.k
  subst k
  exact ⟨rfl, pg_tup hc h1.p hn hst, eg_tup h1.s⟩

/-! ### comprehensions -/
def wipeE (e : En) : List Nat → En
  | [] => e
  | v :: vs => (wipeE e vs).set v .un
def mrg : List Nat → En → En → En
  | [], _, e2 => e2
  | v :: vs, e1, e2 => (mrg vs e1 (e2.set v .un)).set v (match e1[v]? with
    | some (.sh d) => .sh d
    | _ => .un)
theorem un_set {e : En} {v i : Nat} {s : Sl} (h : (e.set v .un)[i]? = some s) (n : s ≠ .un) : i ≠ v ∧ e[i]? = some s := by
  by_cases q : v = i
  · subst q
    rw [List.getElem?_set_self'] at h
    cases z : e[v]? with
    | none =>
      rw [z] at h
      cases h
    | some w =>
      rw [z] at h
      exact absurd (Option.some.inj h).symm n
  · rw [List.getElem?_set_ne q] at h
    exact ⟨fun w => q w.symm, h⟩
/-- a slot forgotten: whatever σ holds there -/
theorem Ok.forget {B F H : Hp} {am : Nat → Addr} {σ σ' : L2.St} {e : En} (k : Ok K B F H am σ e) (v : Nat) (hl : σ'.length = σ.length) (hs : ∀ i : Nat, i ≠ v → σ'[i]? = σ[i]?) : Ok K B F H am σ' (e.set v .un) where
  fh := k.fh
  bh := k.bh
  len := by rw [List.length_set, hl]; exact k.len
  sh := fun i d q => by
    obtain ⟨n, q'⟩ := un_set q (fun z => by cases z)
    rw [hs i n]
    exact k.sh i d q'
  ow := fun i b h q => by
    obtain ⟨n, q'⟩ := un_set q (fun z => by cases z)
    rw [hs i n]
    exact k.ow i b h q'
  sep := fun i j b h b' h' c q1 q2 q3 q4 => by
    obtain ⟨n1, q1'⟩ := un_set q1 (fun z => by cases z)
    obtain ⟨n2, q2'⟩ := un_set q2 (fun z => by cases z)
    rw [hs i n1] at q3
    rw [hs j n2] at q4
    exact k.sep i j b h b' h' c q1' q2' q3 q4
theorem set_other (σ : L2.St) (v : Nat) (x : Option V) (i : Nat) (h : i ≠ v) : (σ.set v x)[i]? = σ[i]? := List.getElem?_set_ne (Ne.symm h)
theorem Ok.wipe {B F H : Hp} {am : Nat → Addr} {σ : L2.St} {e : En} (k : Ok K B F H am σ e) : ∀ vs : List Nat, Ok K B F H am (L2.wipe σ vs) (wipeE e vs)
  | [] => k
  | v :: vs => (k.wipe vs).forget v (List.length_set ..) fun i h => set_other _ v none i h
/-- a slot known again -/
theorem Ok.know {B F H : Hp} {am : Nat → Addr} {σ : L2.St} {e : En} (k : Ok K B F H am σ e) {v : Nat} {x : V} {d : D} (hx : σ[v]? = some (some x)) (r : Rp K F x d) : Ok K B F H am σ (e.set v (.sh d)) := by
  have q := k.set (i := v) r
  have e1 : σ.set v (some x) = σ := by
    apply List.ext_getElem?
    intro j
    by_cases h : v = j
    · subst h
      rw [List.getElem?_set_self', hx] <;> rfl
    · rw [List.getElem?_set_ne h]
  rw [e1] at q
  exact q
theorem Ok.unwipe {B F H : Hp} {am : Nat → Addr} {σ : L2.St} {e1 : En} (old : ∀ (i : Nat) (d : D), e1[i]? = some (.sh d) → ∃ v, σ[i]? = some (some v) ∧ Rp K F v d) : ∀ (vs : List Nat) {e2 : En}, Ok K B F H am (L2.wipe σ vs) e2 → Ok K B F H am σ (mrg vs e1 e2)
  | [], _, k => k
  | v :: vs, e2, k => by
    have k1 : Ok K B F H am (L2.wipe σ vs) (e2.set v .un) := k.forget v (List.length_set ..).symm fun i h => (set_other _ v none i h).symm
    have k2 := Ok.unwipe old vs k1
    show Ok K B F H am σ ((mrg vs e1 (e2.set v .un)).set v _)
    split
    · rename_i d z
      obtain ⟨x, h1, h2⟩ := old v d z
      exact k2.know h1 h2
    · exact k2.forget v rfl fun _ _ => rfl
def lcLoop (vs : List Nat) (set : D → En → Option En) (tst : M Bool) (elt : M D) : List D → En → Option (List D × En)
  | [], e => some ([], e)
  | d :: ds, e => match set d e with
    | none => none
    | some e1 => (match tst e1 with
      | none => none
      | some (r, e2) => if r = true then (match elt e2 with
          | none => none
          | some (y, e3) => (match lcLoop vs set tst elt ds (wipeE e3 vs) with
            | none => none
            | some (ys, e4) => some (y :: ys, e4)))
        else lcLoop vs set tst elt ds (wipeE e2 vs))
def lcS (it : M (List D)) (vs : List Nat) (set : D → En → Option En) (tst : M Bool) (elt : M D) : M (List D) := bnd it fun ds => fun e1 => if ds.length ≤ 1000000 then (match lcLoop vs set tst elt ds (wipeE e1 vs) with
    | none => none
    | some (ys, e2) => some (ys, mrg vs e1 e2))
  else none
theorem drop_cons {α : Type} {ds : List α} {i : Nat} {d : α} (h : ds[i]? = some d) : ds.drop i = d :: ds.drop (i + 1) := by
  obtain ⟨hi, e⟩ := List.getElem?_eq_some_iff.mp h
  rw [List.drop_eq_getElem_cons hi, e]
/-- a base that knows one more object -/
theorem Ok.base {B F H : Hp} {am : Nat → Addr} {σ : L2.St} {e : En} (k : Ok K B F H am σ e) {p : Addr} {o : HO} (hp : H p = some o) (nh : ¬ Hot σ e p) : Ok K (upd B p o) F H am σ e :=
  ⟨k.fh, k.bh.put hp, k.len, k.sh, fun i b h q => by
    obtain ⟨a, u, y1, y2, y3, y4, y5, y6⟩ := k.ow i b h q
    have n : a ≠ p := fun w => nh ⟨i, b, h, q, w ▸ y1⟩
    exact ⟨a, u, y1, y2, by rw [upd_ne n]; exact y3, y4, y5, y6⟩, k.sep⟩
theorem Ok.unbase {B F H : Hp} {am : Nat → Addr} {σ : L2.St} {e : En} {B' : Hp} (k : Ok K B' F H am σ e) (hb : Ex B B') : Ok K B F H am σ e :=
  ⟨k.fh, hb.trans k.bh, k.len, k.sh, fun i b h q => by
    obtain ⟨a, u, y1, y2, y3, y4, y5, y6⟩ := k.ow i b h q
    exact ⟨a, u, y1, y2, hb.none y3, y4, y5, y6⟩, k.sep⟩
theorem Gr.unbase {B B' F F' : Hp} (g : Gr B' F F') (hb : Ex B B') : Gr B F F' := ⟨g.1, fun a o h n => g.2 a o (hb _ _ h) n⟩
theorem hot_wipe {σ : L2.St} {e e' : En} {vs : List Nat} {p : Addr} (h : Hot (L2.wipe σ vs) e p) : ∃ i : Nat, σ[i]? = some (some (V.ref p)) := by
  obtain ⟨i, b, c, _, q⟩ := h
  exact ⟨i, (wipe_some q).1⟩
theorem Ok.noHot {B F H : Hp} {am : Nat → Addr} {σ : L2.St} {e : En} (k : Ok K B F H am σ e) {p : Addr} {o : HO} (hb : B p = some o) : ¬ Hot σ e p := fun h => by
  have := (k.hot h).2.1
  rw [hb] at this
  cases this
theorem Ok.mutOther {B F H : Hp} {am : Nat → Addr} {σ : L2.St} {e : En} (k : Ok K B F H am σ e) {p : Addr} {o : HO} (fp : F p = none) (bp : B p = none) (nh : ¬ Hot σ e p) : Ok K B F (upd H p o) am σ e :=
  k.step (Ex.refl F) (k.fh.mut fp) (k.bh.mut bp) fun a ha => ⟨(k.hot ha).1, upd_ne fun z => nh (z ▸ ha)⟩
theorem wipe_idem (σ : L2.St) (vs : List Nat) : L2.wipe (L2.wipe σ vs) vs = L2.wipe σ vs := by
  apply List.ext_getElem?
  intro j
  rw [wipe_at, wipe_at]
  by_cases h : j ∈ vs
  · rw [if_pos h, if_pos h]
    cases σ[j]? <;> rfl
  · rw [if_neg h, if_neg h]
theorem big_lt {n : Nat} (h : n < 1000000) : n < sizeLine := Nat.lt_of_lt_of_le h (small_le (Nat.le_refl _))
theorem ef_lc {wi : TI} {it : M (List D)} {js vs : List Nat} {gt : TG} {set : D → En → Option En} {tt : TT} {tst : M Bool} {elt : M D} (hi : EI K wi it) (hg : EGs K js gt set) (hjs : ∀ j ∈ js, j ∈ vs) (ht : ET K tt tst) (he : EE K te elt) :
    EF K (tLc wi gt tt te vs) (lcS it vs set tst elt) := by
  intro B F H am σ e out e' Q k q hq
  obtain ⟨ds, e1, q1, q2⟩ := bnd_some q
  split at q2
  · rename_i hlen
    split at q2
    · cases q2
    · rename_i ys e2 zl
      cases Option.some.inj q2
      refine hi B F H am σ e ds e1 _ k q1 fun J F1 H1 g1 k1 yl => fun Dl hD => ?_
      obtain ⟨k1', fD, bD, nD⟩ := k1.newHot (o := .lst []) hD
      have hbx : ∀ o, Ex B (upd B Dl o) := fun o => Ex.new bD
      refine ⟨fun i m H => m = ds.length - i ∧ i ≤ ds.length ∧ ∃ F' e'' va da yr, Gr B F1 F' ∧ Ok K B F' H am (L2.wipe σ vs) e'' ∧ H Dl = some (.lst va) ∧ F' Dl = none ∧ ¬ Hot (L2.wipe σ vs) e'' Dl ∧ RpL K F' va da ∧ va.length ≤ i ∧
        lcLoop vs set tst elt (ds.drop i) e'' = some (yr, e2) ∧ da ++ yr = out, ⟨ds.length, by simp, Nat.zero_le _, F1, wipeE e1 vs, [], [], out, Gr.refl B F1, k1'.wipe vs, upd_same, fD, ((k1'.base upd_same nD).wipe vs).noHot upd_same, .nil, Nat.zero_le _, zl, rfl⟩, ?_⟩
      rintro i m H ⟨rfl, hi, F', e'', va, da, yr, gF, kk, hDl, fD', nh, rr, hva, zl', happ⟩
      have kb := kk.base hDl nh
      have gB : Gr (upd B Dl (.lst va)) F1 F' := ⟨gF.1, fun a o h n => by
        by_cases hd : a = Dl
        · rw [hd]
          exact fD'
        · rw [upd_ne hd] at h
          exact gF.2 a o h n⟩
      obtain ⟨ystop, ygo⟩ := yl (upd B Dl (.lst va)) F' H am (L2.wipe σ vs) e'' gB kb i
      by_cases hlt : i < ds.length
      · have hd : ds[i]? = some ds[i] := List.getElem?_eq_getElem hlt
        obtain ⟨go, yy⟩ := ygo _ hd
        refine .inr ⟨go, fun H => ds.length - (i + 1) = ds.length - (i + 1) ∧ i + 1 ≤ ds.length ∧ ∃ F' e'' va da yr, Gr B F1 F' ∧ Ok K B F' H am (L2.wipe σ vs) e'' ∧ H Dl = some (.lst va) ∧ F' Dl = none ∧ ¬ Hot (L2.wipe σ vs) e'' Dl ∧ RpL K F' va da ∧ va.length ≤ i + 1 ∧
          lcLoop vs set tst elt (ds.drop (i + 1)) e'' = some (yr, e2) ∧ da ++ yr = out, fun H' hN => ⟨ds.length - (i + 1), by omega, hN⟩, fun x H' hy => ?_⟩
        obtain ⟨F2, g2, k2, r2⟩ := yy x H' hy
        rw [drop_cons hd] at zl'
        unfold lcLoop at zl'
        cases zs : set ds[i] e'' with
        | none =>
          rw [zs] at zl'
          cases zl'
        | some ea =>
          rw [zs] at zl'
          cases zt : tst ea with
          | none =>
            simp only [zt] at zl'
            cases zl'
          | some p =>
            obtain ⟨r, eb⟩ := p
            simp only [zt] at zl'
            refine hg _ F2 H' am _ e'' x _ ea _ k2 r2 zs fun σ2 F3 H3 g3 k3 chg => ?_
            have hw : L2.wipe σ2 vs = L2.wipe σ vs := (chg vs hjs).trans (wipe_idem σ vs)
            refine ⟨hw, ht _ F3 H3 am σ2 ea r eb _ k3 zt fun F4 H4 g4 k4 => ?_⟩
            have g24 : Gr (upd B Dl (.lst va)) F' F4 := (g2.trans g3).trans g4
            cases r with
            | true =>
              rw [if_pos rfl]
              rw [if_pos rfl] at zl'
              cases ze : elt eb with
              | none =>
                rw [ze] at zl'
                cases zl'
              | some p =>
                obtain ⟨y, ec⟩ := p
                rw [ze] at zl'
                refine he _ F4 H4 am σ2 eb y ec _ k4 ze fun v F5 H5 g5 k5 r5 => ?_
                have g25 := g24.trans g5
                have f5 : F5 Dl = none := g25.2 Dl _ upd_same fD'
                have hD5 : H5 Dl = some (.lst va) := k5.bh _ _ upd_same
                cases zr : lcLoop vs set tst elt (ds.drop (i + 1)) (wipeE ec vs) with
                | none =>
                  simp only [zr] at zl'
                  cases zl'
                | some p =>
                  obtain ⟨ys', e4⟩ := p
                  simp only [zr] at zl'
                  cases Option.some.inj zl'
                  have kw := k5.wipe vs
                  rw [hw] at kw
                  have nh' := kw.noHot (p := Dl) upd_same
                  refine ⟨va, hD5, big_lt (by omega), rfl, hlt, F5, wipeE ec vs, va ++ [v], da ++ [y], ys', gF.trans (g25.unbase (hbx _)), (kw.unbase (hbx _)).mutOther f5 bD nh', upd_same, f5, nh', (rr.mono g25.1).append (.cons r5 .nil), by rw [List.length_append, List.length_singleton]; omega, zr, ?_⟩
                  rw [List.append_assoc]
                  exact happ
            | false =>
              rw [if_neg Bool.false_ne_true]
              rw [if_neg Bool.false_ne_true] at zl'
              have f4 : F4 Dl = none := g24.2 Dl _ upd_same fD'
              have kw := k4.wipe vs
              rw [hw] at kw
              have nh' := kw.noHot (p := Dl) upd_same
              exact ⟨rfl, hlt, F4, wipeE eb vs, va, da, yr, gF.trans (g24.unbase (hbx _)), kw.unbase (hbx _), k4.bh _ _ upd_same, f4, nh', rr.mono g24.1, by omega, zl', happ⟩
      · have ei : i = ds.length := by omega
        subst ei
        refine .inl ⟨ystop (Nat.le_refl _), ?_⟩
        rw [List.drop_length] at zl'
        unfold lcLoop at zl'
        cases Option.some.inj zl'
        rw [List.append_nil] at happ
        subst happ
        have ku := Ok.unwipe (e1 := e1) (fun i d h => by
          obtain ⟨v, h1, h2⟩ := k1.sh i d h
          exact ⟨v, h1, h2.mono gF.1⟩) vs kb
        exact hq Dl va F' H (g1.trans gF) (ku.unbase (hbx _)) hDl fD' bD (ku.noHot upd_same) rr
  · cases q2
def tYesM : M Bool := ret true
theorem et_yes : ET K tYes tYesM := by
  intro B F H am σ e r e' Q k q h
  obtain ⟨rfl, rfl⟩ := ret_some q
  exact h F H (Gr.refl B F) k
structure XTs (X : Cx) (K : PySem.W.Frag) (ifs : List Expr) (te : TT) (f : M Bool) : Prop where
  k : X.K = K
  p : PTs X ifs te
  s : ET K te f
theorem xts_nil (hk : X.K = K := by rfl) : XTs X K [] tYes tYesM := ⟨hk, pts_nil, et_yes⟩
theorem xts_one {t : TT} {p : M Bool} (h : XT X K a t p) : XTs X K [a] t p := ⟨h.k, pts_one h.p, h.s⟩
section
variable {elt tg iter : Expr} {ifs : List Expr} {scope : Scope} {own : List (Str × Nat)} {spos py : Pos} {wi : TI} {it : M (List D)} {gt : TG} {set : D → En → Option En} {js : List Nat} {tt : TT} {tst : M Bool} {em : M D}
theorem xf_lc (hc : X.calm = true) (hN : X.N.Nodup) (hi : XI X K tg iter wi it) (ok : BlkOk X.N X.env.scope scope own)
    (hg : ∀ (s : Shared) (H : Hp) (C : Addr) (cl : List (Str × Addr)) (fp : List Addr), XGs (X.blk s H scope (compEnvC scope cl C X.env) fp) K js tg gt set) (ht : ∀ (s : Shared) (H : Hp) (C : Addr) (cl : List (Str × Addr)) (fp : List Addr), XTs (X.blk s H scope (compEnvC scope cl C X.env) fp) K ifs tt tst)
    (he : ∀ (s : Shared) (H : Hp) (C : Addr) (cl : List (Str × Addr)) (fp : List Addr), XE (X.blk s H scope (compEnvC scope cl C X.env) fp) K elt te em) (hjs : ∀ j ∈ js, j ∈ own.map (·.2)) (hs : ∀ x, foldedSetIterable iter X.env x = pure x := by intro _; rfl) :
    XF X K (.ListComp elt [⟨tg, iter, ifs, 0⟩] scope pos) (tLc wi gt tt te (own.map (·.2))) (lcS it (own.map (·.2)) set tst em) :=
  ⟨hi.k, pe_lc hc hN hi.p ok (fun s H C cl fp => (hg s H C cl fp).p) (fun s H C cl fp => (ht s H C cl fp).p) (fun s H C cl fp => (he s H C cl fp).p) hs,
    ef_lc hi.s (hg ⟨⟨#[], {}⟩, #[], {}, 0, default⟩ (fun _ => none) 0 [] []).s hjs (ht ⟨⟨#[], {}⟩, #[], {}, 0, default⟩ (fun _ => none) 0 [] []).s (he ⟨⟨#[], {}⟩, #[], {}, 0, default⟩ (fun _ => none) 0 [] []).s⟩
end
end
end Pd
set_option Elab.async false
set_option linter.all false
set_option maxRecDepth 100000
set_option maxHeartbeats 1000000
namespace Pd
open PySem L2

/-! ### statements -/
/-- what a def hands back: data, or a new list -/
inductive Rv where
  | sh (d : D) | nw (ds : List D)
/-- how a statement ends -/
inductive Fl where
  | nx (e : En) | bk (e : En) | ct (e : En) | rt (r : Rv) (e : En) | ex (c : Str) (e : En)
abbrev SM := En → Option Fl
def Dn (K : PySem.W.Frag) (B F : Hp) (am : Nat → Addr) (D : Ends) (W : XK) : Fl → Prop
  | .nx e => ∀ σ' F' H', Gr B F F' → Ok K B F' H' am σ' e → D.nx σ' H'
  | .bk e => ∀ σ' F' H', Gr B F F' → Ok K B F' H' am σ' e → D.bk σ' H'
  | .ct e => ∀ σ' F' H', Gr B F F' → Ok K B F' H' am σ' e → D.ct σ' H'
  | .rt (.sh d) e => ∀ v σ' F' H', Gr B F F' → Ok K B F' H' am σ' e → Rp K F' v d → D.rt v H'
  | .rt (.nw ds) e => ∀ p vs σ' F' H', Gr B F F' → Ok K B F' H' am σ' e → H' p = some (.lst vs) → F' p = none → B p = none → (∀ i h, e[i]? = some (.ow true h) → am i ≠ p) → RpL K F' vs ds → D.rt (.ref p) H'
  | .ex c e => ∀ σ' F' H', Gr B F F' → Ok K B F' H' am σ' e → W (.ref (He.ga K c)) none H'
theorem Dn.up {K : PySem.W.Frag} {B F F1 : Hp} {am : Nat → Addr} {D : Ends} {W : XK} (g : Gr B F F1) : ∀ {fl : Fl}, Dn K B F am D W fl → Dn K B F1 am D W fl
  | .nx _, h => fun σ' F' H' g' => h σ' F' H' (g.trans g')
  | .bk _, h => fun σ' F' H' g' => h σ' F' H' (g.trans g')
  | .ct _, h => fun σ' F' H' g' => h σ' F' H' (g.trans g')
  | .rt (.sh _) _, h => fun v σ' F' H' g' => h v σ' F' H' (g.trans g')
  | .rt (.nw _) _, h => fun p vs σ' F' H' g' => h p vs σ' F' H' (g.trans g')
  | .ex _ _, h => fun σ' F' H' g' => h σ' F' H' (g.trans g')
def SS (K : PySem.W.Frag) (W : XK) (t : TS) (m : SM) : Prop := ∀ B F H am σ e fl (D : Ends), Ok K B F H am σ e → m e = some fl → Dn K B F am D W fl → t D σ H
structure XS (X : Cx) (K : PySem.W.Frag) (W : XK) (st : Stmt) (t : TS) (m : SM) : Prop where
  k : X.K = K
  p : PS X st t
  s : SS K W t m
structure XSs (X : Cx) (K : PySem.W.Frag) (W : XK) (st : List Stmt) (t : TS) (m : SM) : Prop where
  k : X.K = K
  p : PSs X st t
  s : SS K W t m
section
variable {X : Cx} {K : PySem.W.Frag} {W : XK} {a b c : Expr} {rest : List Expr} {ta tb tc te : TE} {f g h : M D} {pos : Pos} {st : Stmt} {sts sts2 : List Stmt} {t u : TS} {m n : SM}
def sSkip : SM := fun e => some (.nx e)
def sSeq (m n : SM) : SM := fun e => match m e with
  | some (.nx e1) => n e1
  | r => r
theorem ss_skip : SS K W tNext sSkip := by
  intro B F H am σ e fl D k q h
  cases Option.some.inj q
  exact h σ F H (Gr.refl B F) k
theorem ss_seq (h1 : SS K W t m) (h2 : SS K W u n) : SS K W (tSeq t u) (sSeq m n) := by
  intro B F H am σ e fl D k q h
  unfold sSeq at q
  split at q
  · rename_i e1 z
    refine h1 B F H am σ e _ _ k z ?_
    intro σ' F' H' g' k'
    exact h2 B F' H' am σ' e1 fl D k' q (h.up g')
  · rename_i z
    refine h1 B F H am σ e fl _ k q ?_
    cases fl with
    | nx e1 => exact absurd q (z e1)
    | bk _ => exact h
    | ct _ => exact h
    | rt r _ => cases r <;> exact h
    | ex _ _ => exact h
theorem xss_nil (hk : X.K = K := by rfl) : XSs X K W [] tNext sSkip := ⟨hk, pss_nil, ss_skip⟩
theorem xss_cons (h1 : XS X K W st t m) (h2 : XSs X K W sts u n) : XSs X K W (st :: sts) (tSeq t u) (sSeq m n) := ⟨h1.k, pss_cons h1.p h2.p, ss_seq h1.s h2.s⟩
theorem xss_one (h1 : XS X K W st t m) : XSs X K W [st] t m := ⟨h1.k, pss_one h1.p, h1.s⟩
theorem xs_pass (hk : X.K = K := by rfl) : XS X K W (.Pass pos) tNext sSkip := ⟨hk, ps_pass, ss_skip⟩
def sBk : SM := fun e => some (.bk e)
def sCt : SM := fun e => some (.ct e)
theorem xs_break (hk : X.K = K := by rfl) : XS X K W (.Break pos) tBreak sBk := ⟨hk, ps_break, by
  intro B F H am σ e fl D k q h
  cases Option.some.inj q
  exact h σ F H (Gr.refl B F) k⟩
theorem xs_continue (hk : X.K = K := by rfl) : XS X K W (.Continue pos) tCont sCt := ⟨hk, ps_continue, by
  intro B F H am σ e fl D k q h
  cases Option.some.inj q
  exact h σ F H (Gr.refl B F) k⟩
/-- an expression, its value dropped -/
def sDrop (f : M D) : SM := fun e => match f e with
  | some (_, e1) => some (.nx e1)
  | none => none
theorem ss_drop (ha : EE K te f) : SS K W (tDrop te) (sDrop f) := by
  intro B F H am σ e fl D k q h
  unfold sDrop at q
  split at q
  · rename_i d e1 z
    cases Option.some.inj q
    exact ha B F H am σ e d e1 _ k z fun v F' H' g' k' _ => h σ F' H' g' k'
  · cases q
theorem xs_expr (ha : XE X K a te f) (hs : swapsWith a none pos.line X.env = pure false := by rfl) : XS X K W (.Expr a pos) (tDrop te) (sDrop f) := ⟨ha.k, ps_expr ha.p hs, ss_drop ha.s⟩
/-- target = data -/
def sAsg (f : M D) (set : D → En → Option En) : SM := fun e => match f e with
  | some (d, e1) => (match set d e1 with
    | some e2 => some (.nx e2)
    | none => none)
  | none => none
theorem ss_asg {js : List Nat} {gt : TG} {set : D → En → Option En} (ha : EE K te f) (hg : EGs K js gt set) : SS K W (tAsg te gt) (sAsg f set) := by
  intro B F H am σ e fl D k q h
  unfold sAsg at q
  split at q
  · rename_i d e1 z
    split at q
    · rename_i e2 z2
      cases Option.some.inj q
      exact ha B F H am σ e d e1 _ k z fun v F' H' g' k' r => hg B F' H' am σ e1 v d e2 _ k' r z2 fun σ2 F2 H2 g2 k2 _ => h σ2 F2 H2 (g'.trans g2) k2
    · cases q
  · cases q
theorem xs_set (i : Nat) {x : Str} {px : Pos} (hN : X.N.Nodup) (hi : X.N[i]? = some x) (hx : Loc X.env.scope x) (ha : XE X K a te f) (hs : swapsWith a (some (.Name x px)) pos.line X.env = pure false := by rfl) (hf : X.fn x = true ∨ X.env.scope.names.lookup x = some .local := by first | exact .inl rfl | exact .inr rfl | assumption) :
    XS X K W (.Assign [.Name x px] a pos) (tAsg te (gName i)) (sAsg f (setN i)) := ⟨ha.k, ps_set hN hi hx ha.p hs hf, ss_asg ha.s (eg_name i)⟩
theorem xs_asg {js : List Nat} {tg : Expr} {gt : TG} {set : D → En → Option En} (ha : XE X K a te f) (hg : XGs X K js tg gt set) (hs : swapsWithSole [tg] a pos.line X.env = pure false := by rfl) (hw : swappedStores [tg] a X.env = pure none := by rfl)
    (h1 : (assignEach [tg] X.env).map (·.2) = [assign tg X.env] := by rfl) : XS X K W (.Assign [tg] a pos) (tAsg te gt) (sAsg f set) := ⟨ha.k, ps_asg ha.p hg.p hs hw h1, ss_asg ha.s hg.s⟩
/-- name = a new list that will change -/
def sAsgH (r : M (List D)) (i : Nat) : SM := fun e => match r e with
  | some (ds, e1) => (match e1[i]? with
    | some (.ow true _) => none
    | some _ => some (.nx (e1.set i (.ow false (.lst ds))))
    | none => none)
  | none => none
theorem ss_asgH {r : M (List D)} (i : Nat) (ha : EF K te r) : SS K W (tAsg te (gName i)) (sAsgH r i) := by
  intro B F H am σ e fl D k q h
  unfold sAsgH at q
  split at q
  · rename_i ds e1 z
    split at q
    · cases q
    · cases Option.some.inj q
      exact ha B F H am σ e ds e1 _ k z fun p vs F' H' g' k' z1 z2 z3 z4 rr => h _ F' H' g' (k'.setHot z1 z2 z3 z4 (.lst rr))
    · cases q
  · cases q
theorem xs_setH (i : Nat) {x : Str} {px : Pos} {r : M (List D)} (hN : X.N.Nodup) (hi : X.N[i]? = some x) (hx : Loc X.env.scope x) (ha : XF X K a te r) (hs : swapsWith a (some (.Name x px)) pos.line X.env = pure false := by rfl) (hf : X.fn x = true ∨ X.env.scope.names.lookup x = some .local := by first | exact .inl rfl | exact .inr rfl | assumption) :
    XS X K W (.Assign [.Name x px] a pos) (tAsg te (gName i)) (sAsgH r i) := ⟨ha.k, ps_set hN hi hx ha.p hs hf, ss_asgH i ha.s⟩
section
variable {elt tg iter : Expr} {ifs : List Expr} {scope : Scope} {own : List (Str × Nat)} {spos py : Pos} {wi : TI} {it : M (List D)} {gt : TG} {set : D → En → Option En} {js : List Nat} {tt : TT} {tst : M Bool} {em : M D}
/-- y = [..] on one line -/
theorem ps_lcF (i : Nat) {y : Str} (hc : X.calm = true) (hN : X.N.Nodup) (hy : X.N[i]? = some y) (hyl : X.env.scope.names.lookup y = some .local) (hsw : swapsWith (.ListComp elt [⟨tg, iter, ifs, 0⟩] scope pos) (some (.Name y py)) spos.line X.env = pure true) (hi : XI X K tg iter wi it) (ok : BlkOk X.N X.env.scope scope own)
    (hg : ∀ (s : Shared) (H : Hp) (C : Addr) (cl : List (Str × Addr)) (fp : List Addr), XGs (X.blk s H scope (compEnvC scope cl C X.env) fp) K js tg gt set) (ht : ∀ (s : Shared) (H : Hp) (C : Addr) (cl : List (Str × Addr)) (fp : List Addr), XTs (X.blk s H scope (compEnvC scope cl C X.env) fp) K ifs tt tst)
    (he : ∀ (s : Shared) (H : Hp) (C : Addr) (cl : List (Str × Addr)) (fp : List Addr), XE (X.blk s H scope (compEnvC scope cl C X.env) fp) K elt te em) (hjs : ∀ j ∈ js, j ∈ own.map (·.2)) (hs : ∀ x, foldedSetIterable iter X.env x = pure x := by intro _; rfl) :
    PS X (.Assign [.Name y py] (.ListComp elt [⟨tg, iter, ifs, 0⟩] scope pos) spos) (tAsg (tLc wi gt tt te (own.map (·.2))) (gName i)) :=
  ps_setLc hc hN hy hyl hsw hi.p ok (fun s H C cl fp => (hg s H C cl fp).p) (fun s H C cl fp => (ht s H C cl fp).p) (fun s H C cl fp => (he s H C cl fp).p) hs
theorem xs_setLc (i : Nat) {y : Str} (hc : X.calm = true) (hN : X.N.Nodup) (hy : X.N[i]? = some y) (hyl : X.env.scope.names.lookup y = some .local) (hsw : swapsWith (.ListComp elt [⟨tg, iter, ifs, 0⟩] scope pos) (some (.Name y py)) spos.line X.env = pure true) (hi : XI X K tg iter wi it) (ok : BlkOk X.N X.env.scope scope own)
    (hg : ∀ (s : Shared) (H : Hp) (C : Addr) (cl : List (Str × Addr)) (fp : List Addr), XGs (X.blk s H scope (compEnvC scope cl C X.env) fp) K js tg gt set) (ht : ∀ (s : Shared) (H : Hp) (C : Addr) (cl : List (Str × Addr)) (fp : List Addr), XTs (X.blk s H scope (compEnvC scope cl C X.env) fp) K ifs tt tst)
    (he : ∀ (s : Shared) (H : Hp) (C : Addr) (cl : List (Str × Addr)) (fp : List Addr), XE (X.blk s H scope (compEnvC scope cl C X.env) fp) K elt te em) (hjs : ∀ j ∈ js, j ∈ own.map (·.2)) (hs : ∀ x, foldedSetIterable iter X.env x = pure x := by intro _; rfl) :
    XS X K W (.Assign [.Name y py] (.ListComp elt [⟨tg, iter, ifs, 0⟩] scope pos) spos) (tAsg (tLc wi gt tt te (own.map (·.2))) (gName i)) (sAsg (mLst (lcS it (own.map (·.2)) set tst em)) (setN i)) :=
  ⟨hi.k, ps_lcF i hc hN hy hyl hsw hi ok hg ht he hjs hs, ss_asg (ee_of_ef (xf_lc hc hN hi ok hg ht he hjs hs (pos := pos)).s) (eg_name i)⟩
theorem xs_setLcH (i : Nat) {y : Str} (hc : X.calm = true) (hN : X.N.Nodup) (hy : X.N[i]? = some y) (hyl : X.env.scope.names.lookup y = some .local) (hsw : swapsWith (.ListComp elt [⟨tg, iter, ifs, 0⟩] scope pos) (some (.Name y py)) spos.line X.env = pure true) (hi : XI X K tg iter wi it) (ok : BlkOk X.N X.env.scope scope own)
    (hg : ∀ (s : Shared) (H : Hp) (C : Addr) (cl : List (Str × Addr)) (fp : List Addr), XGs (X.blk s H scope (compEnvC scope cl C X.env) fp) K js tg gt set) (ht : ∀ (s : Shared) (H : Hp) (C : Addr) (cl : List (Str × Addr)) (fp : List Addr), XTs (X.blk s H scope (compEnvC scope cl C X.env) fp) K ifs tt tst)
    (he : ∀ (s : Shared) (H : Hp) (C : Addr) (cl : List (Str × Addr)) (fp : List Addr), XE (X.blk s H scope (compEnvC scope cl C X.env) fp) K elt te em) (hjs : ∀ j ∈ js, j ∈ own.map (·.2)) (hs : ∀ x, foldedSetIterable iter X.env x = pure x := by intro _; rfl) :
    XS X K W (.Assign [.Name y py] (.ListComp elt [⟨tg, iter, ifs, 0⟩] scope pos) spos) (tAsg (tLc wi gt tt te (own.map (·.2))) (gName i)) (sAsgH (lcS it (own.map (·.2)) set tst em) i) :=
  ⟨hi.k, ps_lcF i hc hN hy hyl hsw hi ok hg ht he hjs hs, ss_asgH i (xf_lc hc hN hi ok hg ht he hjs hs (pos := pos)).s⟩
end
/-- a, b = e1, e2 -/
def sPar (i j : Nat) (f g : M D) : SM := fun e => match f e with
  | some (x, e1) => (match g e1 with
    | some (y, e2) => (match e2[i]?, e2[j]? with
      | some (.ow true _), _ => none
      | _, some (.ow true _) => none
      | _, _ => some (.nx ((e2.set i (.sh x)).set j (.sh y))))
    | none => none)
  | none => none
theorem ss_par (i j : Nat) (ha : EE K ta f) (hb : EE K tb g) : SS K W (tPar i j (tCons ta (tCons tb tNil))) (sPar i j f g) := by
  intro B F H am σ e fl D k q h
  unfold sPar at q
  split at q
  · rename_i x e1 z1
    split at q
    · rename_i y e2 z2
      split at q
      · cases q
      · cases q
      · cases Option.some.inj q
        refine ha B F H am σ e x e1 _ k z1 fun v F1 H1 g1 k1 r1 => ?_
        refine hb B F1 H1 am σ e1 y e2 _ k1 z2 fun u F2 H2 g2 k2 r2 => ?_
        exact ⟨v, u, rfl, h _ F2 H2 (g1.trans g2) ((k2.set (r1.mono g2.1)).set r2)⟩
    · cases q
  · cases q
theorem xs_par (i j : Nat) {x y : Str} {px py pt pt2 : Pos} {kt k2 : Nat} (hc : X.calm = true) (hN : X.N.Nodup) (hi : X.N[i]? = some x) (hj : X.N[j]? = some y) (hij : i ≠ j) (hx : X.env.scope.names.lookup x = some .local) (hy : X.env.scope.names.lookup y = some .local) (ha : XE X K a ta f) (hb : XE X K b tb g)
    (hw : swappedStores [.Tuple [.Name x px, .Name y py] kt pt] (.Tuple [a, b] k2 pt2) X.env = pure (some [x, y]))
    (hs : swapsWithSole [.Tuple [.Name x px, .Name y py] kt pt] (.Tuple [a, b] k2 pt2) pos.line X.env = pure false := by rfl) (hs3 : starEach (a :: [b]) X.env = (false, eval a X.env) :: starEach [b] X.env := by rfl) (hs4 : starEach (b :: []) X.env = (false, eval b X.env) :: starEach [] X.env := by rfl) :
    XS X K W (.Assign [.Tuple [.Name x px, .Name y py] kt pt] (.Tuple [a, b] k2 pt2) pos) (tPar i j (tCons ta (tCons tb tNil))) (sPar i j f g) := ⟨ha.k, ps_par hc hN hi hj hij hx hy (pa_cons ha.p (pa_cons hb.p pa_nil hs4) hs3) hw hs, ss_par i j ha.s hb.s⟩
/-- name op= e, of ints -/
def sAug (i : Nat) (o : D → D → Option D) (f : M D) : SM := fun e => match e[i]? with
  | some (.sh x) => (match f e with
    | some (y, e1) => (match o x y with
      | some z => some (.nx (e1.set i (.sh z)))
      | none => none)
    | none => none)
  | _ => none
theorem ss_aug (i : Nat) {r : R2} {o : D → D → Option D} (hr : BinS K r o) (ha : EE K ta f) : SS K W (tAug i ta r) (sAug i o f) := by
  intro B F H am σ e fl D k q h
  unfold sAug at q
  split at q
  · rename_i x z0
    split at q
    · rename_i y e1 z1
      split at q
      · rename_i z z2
        cases Option.some.inj q
        obtain ⟨v, y1, y2⟩ := k.sh i x z0
        refine ⟨v, y1, ha B F H am σ e y e1 _ k z1 fun u F1 H1 g1 k1 r1 => ?_⟩
        exact hr F1 H1 v x u y z _ k1.fh (y2.mono g1.1) r1 z2 fun w r3 => h _ F1 H1 g1 (k1.set r3)
      · cases q
    · cases q
  · cases q
theorem xs_aug (i : Nat) {x : Str} {px : Pos} {op : Operator} {r : R2} {o : D → D → Option D} (hp : PIp X op r) (hr : BinS K r o) (hN : X.N.Nodup) (hi : X.N[i]? = some x) (hx : Loc X.env.scope x) (ha : XE X K a ta f) (hf : X.fn x = true ∨ X.env.scope.names.lookup x = some .local := by first | exact .inl rfl | exact .inr rfl | assumption) :
    XS X K W (.AugAssign (.Name x px) op a pos) (tAug i ta r) (sAug i o f) := ⟨ha.k, ps_aug hN hi hx ha.p hp hf, ss_aug i hr ha.s⟩
theorem pip_add : PIp X .Add rAddI := iop_add
theorem pip_sub : PIp X .Sub rSubI := iop_sub
abbrev rFdivI : R2 := rI CDiv fun i j => .int (i / j)
theorem pip_fdiv : PIp X .FloorDiv rFdivI := iop_fdiv
def dFdivS : D → D → Option D
  | .int i, .int j => if 0 < j ∧ j < 1073741824 then some (.int (i / j)) else none
  | _, _ => none
theorem bs_fdivS : BinS K rFdivI dFdivS := by
  intro F H x dx y dy d Q ex rx ry q h
  unfold dFdivS at q
  split at q
  · split at q
    · rename_i hm
      cases rx
      cases ry
      cases Option.some.inj q
      exact ⟨_, _, rfl, rfl, hm, h _ (.int _)⟩
    · cases q
  · cases q
/-- x[i] = e, of a hot list -/
def sSub (i : Nat) (fi f : M D) : SM := fun e => match f e with
  | some (d, e0) => (match hotRead i fi e0 with
    | some ((y, ds), e1) => (match e1[i]?, y with
      | some (.ow b _), .int j => (match ixN ds.length j with
        | some n => some (.nx (e1.set i (.ow b (.lst (ds.set n d)))))
        | none => none)
      | _, _ => none)
    | none => none)
  | none => none
theorem ss_sub (i : Nat) {ti : TE} {fi : M D} (ha : EE K ta f) (hi : EE K ti fi) : SS K W (tAsg ta (gSub (tVar i) ti rSetL)) (sSub i fi f) := by
  intro B F H am σ e fl D k q h
  unfold sSub at q
  split at q
  · rename_i d e0 z0
    split at q
    · rename_i y ds e1 z1
      split at q
      · rename_i b hh j z2
        split at q
        · rename_i n z3
          cases Option.some.inj q
          obtain ⟨⟨ds0, w0⟩, w1, w2⟩ := hotRead_some z1
          refine ha B F H am σ e d e0 _ k z0 fun v F1 H1 g1 k1 r1 => ?_
          obtain ⟨b0, a0, vs0, _, y1, _⟩ := k1.hotL w0
          refine ⟨_, y1, hi B F1 H1 am σ e0 _ e1 _ k1 w1 fun u F2 H2 g2 k2 r2 => ?_⟩
          cases r2
          obtain ⟨b', a', vs, x0, x1, x2, x3, x4, x5⟩ := k2.hotL w2
          rw [y1] at x1
          cases x1
          rw [x0] at z2
          cases Option.some.inj z2
          refine ⟨a0, vs, j, n, rfl, rfl, x4, by rw [x5.length]; exact z3, ?_⟩
          exact h σ F2 _ (g1.trans g2) (k2.write x0 y1 (.lst (x5.set n (r1.mono g2.1))))
        · cases q
      · cases q
    · cases q
  · cases q
theorem xs_sub (i : Nat) {x : Str} {px ps : Pos} {ix : Expr} {ti : TE} {fi : M D} (hN : X.N[i]? = some x) (hv : Vis X.env.scope x) (ha : XE X K a ta f) (hi : XE X K ix ti fi) (hd : (x == ("__debug__" : Str)) = false := by decide) (hcd : (x == ("__classdict__" : Str)) = false := by decide)
    (hq : ∀ v, assign (.Subscript (.Name x px) ix ps) X.env v = (do
      let ov ← holding [v] (eval (.Name x px) X.env)
      let iv ← holding [v, ov] (eval ix X.env)
      standAt ps
      holding [v, ov, iv] (setItem ov iv v)
      release [v, ov, iv] []) := by intro _; rfl)
    (hs : swapsWithSole [.Subscript (.Name x px) ix ps] a pos.line X.env = pure false := by rfl) (hw : swappedStores [.Subscript (.Name x px) ix ps] a X.env = pure none := by rfl)
    (h1 : (assignEach [.Subscript (.Name x px) ix ps] X.env).map (·.2) = [assign (.Subscript (.Name x px) ix ps) X.env] := by rfl) :
    XS X K W (.Assign [.Subscript (.Name x px) ix ps] a pos) (tAsg ta (gSub (tVar i) ti rSetL)) (sSub i fi f) := ⟨ha.k, ps_asg ha.p (pg_sub (pe_var hN hv hd hcd) hi.p set_list hq) hs hw h1, ss_sub i ha.s hi.s⟩
/-- x.append(e), of a hot list -/
def sApp (i : Nat) (f : M D) : SM := fun e => match hotRead i f e with
  | some ((d, ds), e1) => (match e1[i]? with
    | some (.ow b _) => if ds.length < 1000000 then some (.nx (e1.set i (.ow b (.lst (ds ++ [d]))))) else none
    | _ => none)
  | none => none
theorem ss_app (i : Nat) (ha : EE K ta f) : SS K W (tDrop (tBM K "list" rAppend (tVar i) (tCons ta tNil))) (sApp i f) := by
  intro B F H am σ e fl D k q h
  unfold sApp at q
  split at q
  · rename_i d ds e1 z1
    split at q
    · rename_i b hh z2
      split at q
      · rename_i hlt
        cases Option.some.inj q
        obtain ⟨⟨ds0, w0⟩, w1, w2⟩ := hotRead_some z1
        obtain ⟨b0, a0, vs0, _, y1, _, _, y4, _⟩ := k.hotL w0
        refine ⟨_, y1, .inl ⟨rfl, _, SqL.of y4⟩, ha B F H am σ e d e1 _ k w1 fun v F1 H1 g1 k1 r1 => ?_⟩
        obtain ⟨b', a', vs, x0, x1, x2, x3, x4, x5⟩ := k1.hotL w2
        rw [y1] at x1
        cases x1
        rw [x0] at z2
        cases Option.some.inj z2
        exact ⟨a0, vs, v, rfl, rfl, x4, by rw [x5.length]; exact big_lt hlt, h σ F1 _ g1 (k1.write x0 y1 (.lst (x5.append (.cons r1 .nil))))⟩
      · cases q
    · cases q
  · cases q
theorem xs_app (i : Nat) {x : Str} {px p1 p2 : Pos} (hN : X.N[i]? = some x) (hv : Vis X.env.scope x) (ha : XE X K a ta f) (hs : starEach (a :: []) X.env = (false, eval a X.env) :: starEach [] X.env := by rfl)
    (hp : PE X (.Call (.Attribute (.Name x px) "append" p1) [a] [] p2) (tBM X.K "list" rAppend (tVar i) (tCons ta tNil))) (hs2 : swapsWith (.Call (.Attribute (.Name x px) "append" p1) [a] [] p2) none pos.line X.env = pure false := by rfl) :
    XS X K W (.Expr (.Call (.Attribute (.Name x px) "append" p1) [a] [] p2) pos) (tDrop (tBM K "list" rAppend (tVar i) (tCons ta tNil))) (sApp i f) := by
  have k := ha.k
  subst k
  exact ⟨rfl, ps_expr hp hs2, ss_app i ha.s⟩
/-- self.x = e, of a hot instance -/
def sFldS (i : Nat) (c x : Str) (f : M D) : SM := fun e => match f e with
  | some (d, e1) => (match hotI e1 i c, e1[i]? with
    | some fs, some (.ow b _) => if fs.length < 900 then some (.nx (e1.set i (.ow b (.ins c (putD x d fs))))) else none
    | _, _ => none)
  | none => none
theorem rpf_put {F : Hp} {x : Str} {v : V} {d : D} (r : Rp K F v d) : ∀ {vs : List (Str × V)} {fs : List (Str × D)}, RpF K F vs fs → RpF K F (putF x v vs) (putD x d fs)
  | _, _, .nil => .cons r .nil
  | _, _, .cons (f := g) h q => by
    unfold putF putD
    by_cases z : g = x
    · rw [if_pos z, if_pos z]
      exact .cons r q
    · rw [if_neg z, if_neg z]
      exact .cons h (rpf_put r q)
theorem ss_fldS (i : Nat) {c x : Str} (hc : Cls K (He.ga K c)) (hn : NoAttr K (He.ga K c) x) (ha : EE K ta f) : SS K W (sFld K (tVar i) ta x) (sFldS i c x f) := by
  intro B F H am σ e fl D k q h
  unfold sFldS at q
  split at q
  · rename_i d e1 z1
    split at q
    · rename_i fs b hh z2 z3
      split at q
      · rename_i hlt
        cases Option.some.inj q
        refine ha B F H am σ e d e1 _ k z1 fun v F1 H1 g1 k1 r1 => ?_
        obtain ⟨b', a0, dx, vs, x0, x1, x2, x3, x4, x5⟩ := k1.hotI z2
        rw [x0] at z3
        cases Option.some.inj z3
        exact ⟨_, x1, a0, _, dx, vs, rfl, x4, hc, hn, by rw [x5.length]; omega, h σ F1 _ g1 (k1.write x0 x1 (.ins (rpf_put r1 x5)))⟩
      · cases q
    · cases q
  · cases q
theorem xs_fld (i : Nat) {c x y : Str} {px p1 : Pos} (hc : Cls X.K (He.ga X.K c)) (hn : NoAttr X.K (He.ga X.K c) x) (hN : X.N[i]? = some y) (hv : Vis X.env.scope y) (ha : XE X K a ta f) (hs : swapsWith a (some (.Attribute (.Name y px) x p1)) pos.line X.env = pure false := by rfl) (hd : (y == ("__debug__" : Str)) = false := by decide) (hcd : (y == ("__classdict__" : Str)) = false := by decide) :
    XS X K W (.Assign [.Attribute (.Name y px) x p1] a pos) (sFld K (tVar i) ta x) (sFldS i c x f) := by
  have k := ha.k
  subst k
  exact ⟨rfl, ps_fld (pe_var hN hv hd hcd) ha.p hs, ss_fldS i hc hn ha.s⟩
/-- return -/
def sRet (f : M D) : SM := fun e => match f e with
  | some (d, e1) => some (.rt (.sh d) e1)
  | none => none
theorem ss_ret (ha : EE K te f) : SS K W (tRet te) (sRet f) := by
  intro B F H am σ e fl D k q h
  unfold sRet at q
  split at q
  · rename_i d e1 z
    cases Option.some.inj q
    exact ha B F H am σ e d e1 _ k z fun v F' H' g' k' r => h v σ F' H' g' k' r
  · cases q
theorem xs_ret (ha : XE X K a te f) : XS X K W (.Return (some a) pos) (tRet te) (sRet f) := ⟨ha.k, ps_ret ha.p, ss_ret ha.s⟩
def sRetN : SM := fun e => some (.rt (.sh .non) e)
theorem xs_retN (hk : X.K = K := by rfl) : XS X K W (.Return none pos) tRetN sRetN := ⟨hk, ps_retN, by
  intro B F H am σ e fl D k q h
  cases Option.some.inj q
  exact h _ σ F H (Gr.refl B F) k .non⟩
def sRetF (r : M (List D)) : SM := fun e => match r e with
  | some (ds, e1) => some (.rt (.nw ds) e1)
  | none => none
theorem ss_retF {r : M (List D)} (ha : EF K te r) : SS K W (tRet te) (sRetF r) := by
  intro B F H am σ e fl D k q h
  unfold sRetF at q
  split at q
  · rename_i ds e1 z
    cases Option.some.inj q
    exact ha B F H am σ e ds e1 _ k z fun p vs F' H' g' k' z1 z2 z3 z4 rr => h p vs σ F' H' g' k' z1 z2 z3 (fun i hh w => fun y => by
      obtain ⟨a, o, y1, y2, y3, y4, y5, y6⟩ := k'.ow i true hh w
      exact z4 ⟨i, true, hh, w, by rw [y1, y6 rfl, y]⟩) rr
  · cases q
theorem xs_retF {r : M (List D)} (ha : XF X K a te r) : XS X K W (.Return (some a) pos) (tRet te) (sRetF r) := ⟨ha.k, ps_ret ha.p, ss_retF ha.s⟩
/-- return of a hot list of one's own -/
def sRetH (i : Nat) : SM := fun e => match e[i]? with
  | some (.ow false (.lst ds)) => some (.rt (.nw ds) (e.set i .un))
  | _ => none
theorem ss_retH (i : Nat) : SS K W (tRet (tVar i)) (sRetH i) := by
  intro B F H am σ e fl D k q h
  unfold sRetH at q
  split at q
  · rename_i ds z
    cases Option.some.inj q
    obtain ⟨a, o, y1, y2, y3, y4, y5, _⟩ := k.ow i _ _ z
    cases y5 with
    | lst r =>
      have k2 := k.forget (σ' := σ) i rfl fun _ _ => rfl
      refine ⟨_, y1, h a _ σ F H (Gr.refl B F) k2 y4 y2 y3 (fun j hh w y => ?_) r⟩
      obtain ⟨n, w'⟩ := un_set w (fun z => by cases z)
      obtain ⟨a', o', x1, _, _, _, _, x6⟩ := k.ow j true hh w'
      have := k.sep i j _ _ _ _ a z w' y1 (by rw [x1, x6 rfl, y])
      exact n this.symm
  · cases q
theorem xs_retH (i : Nat) {x : Str} {px : Pos} (hN : X.N[i]? = some x) (hv : Vis X.env.scope x) (hk : X.K = K := by rfl) (hd : (x == ("__debug__" : Str)) = false := by decide) (hcd : (x == ("__classdict__" : Str)) = false := by decide) :
    XS X K W (.Return (some (.Name x px)) pos) (tRet (tVar i)) (sRetH i) := ⟨hk, ps_ret (pe_var hN hv hd hcd), ss_retH i⟩
/-- if -/
def sIf (p : M Bool) (m n : SM) : SM := fun e => match p e with
  | some (r, e1) => if r = true then m e1 else n e1
  | none => none
theorem ss_if {tt : TT} {p : M Bool} (hp : ET K tt p) (h1 : SS K W t m) (h2 : SS K W u n) : SS K W (tIfS tt t u) (sIf p m n) := by
  intro B F H am σ e fl D k q h
  unfold sIf at q
  split at q
  · rename_i r e1 z
    refine hp B F H am σ e r e1 _ k z fun F1 H1 g1 k1 => ?_
    cases r with
    | true => exact h1 B F1 H1 am σ e1 fl D k1 q (h.up g1)
    | false => exact h2 B F1 H1 am σ e1 fl D k1 q (h.up g1)
  · cases q
theorem xs_if {tt : TT} {p : M Bool} {tst : Expr} (hp : XT X K tst tt p) (h1 : XSs X K W sts t m) (h2 : XSs X K W sts2 u n) : XS X K W (.If tst sts sts2 pos) (tIfS tt t u) (sIf p m n) := ⟨hp.k, ps_if hp.p h1.p h2.p, ss_if hp.s h1.s h2.s⟩
/-- while -/
def sWh (p : M Bool) (m : SM) : Nat → SM
  | 0, _ => none
  | n + 1, e => match p e with
    | some (true, e1) => (match m e1 with
      | some (.nx e2) => sWh p m n e2
      | some (.ct e2) => sWh p m n e2
      | some (.bk e2) => some (.nx e2)
      | r => r)
    | some (false, e1) => some (.nx e1)
    | none => none
theorem ss_while {tt : TT} {p : M Bool} (N : Nat) (hp : ET K tt p) (h1 : SS K W t m) : SS K W (tWhile tt t) (sWh p m N) := by
  intro B F H am σ e fl D k q h
  refine ⟨fun n σ H => ∃ F' e', Gr B F F' ∧ Ok K B F' H am σ e' ∧ sWh p m n e' = some fl, ⟨N, F, e, Gr.refl B F, k, q⟩, ?_⟩
  rintro n σ H ⟨F', e', g', k', q'⟩
  cases n with
  | zero => cases q'
  | succ n =>
    unfold sWh at q'
    split at q'
    · rename_i e1 z
      refine hp B F' H am σ e' true e1 _ k' z fun F1 H1 g1 k1 => ?_
      rw [if_pos rfl]
      refine ⟨fun σ H => ∃ F' e', Gr B F F' ∧ Ok K B F' H am σ e' ∧ sWh p m n e' = some fl, fun σ' H' w => ⟨n, Nat.lt_succ_self n, w⟩, ?_⟩
      have g01 := g'.trans g1
      split at q'
      · rename_i e2 z2
        exact h1 B F1 H1 am σ e1 _ _ k1 z2 fun σ' F2 H2 g2 k2 => ⟨F2, e2, g01.trans g2, k2, q'⟩
      · rename_i e2 z2
        exact h1 B F1 H1 am σ e1 _ _ k1 z2 fun σ' F2 H2 g2 k2 => ⟨F2, e2, g01.trans g2, k2, q'⟩
      · rename_i e2 z2
        cases Option.some.inj q'
        exact h1 B F1 H1 am σ e1 _ _ k1 z2 fun σ' F2 H2 g2 k2 => h σ' F2 H2 (g01.trans g2) k2
      · rename_i z2 z3 z4
        refine h1 B F1 H1 am σ e1 fl _ k1 q' ?_
        cases fl with
        | nx e1 => exact absurd q' (z2 e1)
        | bk e1 => exact absurd q' (z4 e1)
        | ct e1 => exact absurd q' (z3 e1)
        | rt r _ => cases r <;> exact h.up g01
        | ex _ _ => exact h.up g01
    · rename_i e1 z
      cases Option.some.inj q'
      refine hp B F' H am σ e' false e1 _ k' z fun F1 H1 g1 k1 => ?_
      rw [if_neg Bool.false_ne_true]
      exact h σ F1 H1 (g'.trans g1) k1
    · cases q'
theorem xs_while {tt : TT} {p : M Bool} {tst : Expr} (N : Nat) (hpo : PassesOwn (model X.prog X.w) X.A X.env X.xe) (hp : XT X K tst tt p) (h1 : XSs X K W sts t m) : XS X K W (.While tst sts [] pos) (tWhile tt t) (sWh p m N) := ⟨hp.k, ps_while hpo hp.p h1.p, ss_while N hp.s h1.s⟩
/-- for -/
def sForL (set : D → En → Option En) (m : SM) : List D → SM
  | [], e => some (.nx e)
  | d :: ds, e => match set d e with
    | none => none
    | some e1 => (match m e1 with
      | some (.nx e2) => sForL set m ds e2
      | some (.ct e2) => sForL set m ds e2
      | some (.bk e2) => some (.nx e2)
      | r => r)
def sFor (it : M (List D)) (set : D → En → Option En) (m : SM) : SM := fun e => match it e with
  | some (ds, e1) => sForL set m ds e1
  | none => none
theorem ss_for {wi : TI} {it : M (List D)} {js : List Nat} {gt : TG} {set : D → En → Option En} (hi : EI K wi it) (hg : EGs K js gt set) (h1 : SS K W t m) : SS K W (tFor wi gt t) (sFor it set m) := by
  intro B F H am σ e fl D k q h
  unfold sFor at q
  split at q
  · rename_i ds e1 z
    refine hi B F H am σ e ds e1 _ k z fun J F1 H1 g1 k1 yl => ?_
    refine ⟨fun i n σ H => n = ds.length - i ∧ i ≤ ds.length ∧ ∃ F' e', Gr B F1 F' ∧ Ok K B F' H am σ e' ∧ sForL set m (ds.drop i) e' = some fl, ⟨ds.length, by simp, Nat.zero_le _, F1, e1, Gr.refl B F1, k1, q⟩, ?_⟩
    rintro i n σ H ⟨rfl, hin, F', e', g', k', q'⟩
    obtain ⟨ystop, ygo⟩ := yl B F' H am σ e' g' k' i
    by_cases hlt : i < ds.length
    · have hd : ds[i]? = some ds[i] := List.getElem?_eq_getElem hlt
      obtain ⟨go, yy⟩ := ygo _ hd
      refine .inr ⟨go, fun σ H => ∃ F' e', Gr B F1 F' ∧ Ok K B F' H am σ e' ∧ sForL set m (ds.drop (i + 1)) e' = some fl, fun σ' H' hN => ⟨ds.length - (i + 1), by omega, rfl, hlt, hN⟩, fun x H' hy => ?_⟩
      obtain ⟨F2, g2, k2, r2⟩ := yy x H' hy
      rw [drop_cons hd] at q'
      unfold sForL at q'
      split at q'
      · cases q'
      · rename_i ea zs
        refine hg B F2 H' am σ e' x _ ea _ k2 r2 zs fun σ2 F3 H3 g3 k3 _ => ?_
        have g03 := (g'.trans g2).trans g3
        split at q'
        · rename_i e2 z2
          exact h1 B F3 H3 am σ2 ea _ _ k3 z2 fun σ' F4 H4 g4 k4 => ⟨F4, e2, g03.trans g4, k4, q'⟩
        · rename_i e2 z2
          exact h1 B F3 H3 am σ2 ea _ _ k3 z2 fun σ' F4 H4 g4 k4 => ⟨F4, e2, g03.trans g4, k4, q'⟩
        · rename_i e2 z2
          cases Option.some.inj q'
          exact h1 B F3 H3 am σ2 ea _ _ k3 z2 fun σ' F4 H4 g4 k4 => h σ' F4 H4 ((g1.trans g03).trans g4) k4
        · rename_i z2 z3 z4
          refine h1 B F3 H3 am σ2 ea fl _ k3 q' ?_
          cases fl with
          | nx e1 => exact absurd q' (z2 e1)
          | bk e1 => exact absurd q' (z4 e1)
          | ct e1 => exact absurd q' (z3 e1)
          | rt r _ => cases r <;> exact h.up (g1.trans g03)
          | ex _ _ => exact h.up (g1.trans g03)
    · have ei : i = ds.length := by omega
      subst ei
      rw [List.drop_length] at q'
      unfold sForL at q'
      cases Option.some.inj q'
      exact .inl ⟨ystop (Nat.le_refl _), h σ F' H (g1.trans g') k'⟩
  · cases q
theorem xs_for {tg it : Expr} {wi : TI} {itm : M (List D)} {js : List Nat} {gt : TG} {set : D → En → Option En} (hpo : PassesOwn (model X.prog X.w) X.A X.env X.xe) (hc : X.calm = true) (hi : XI X K tg it wi itm) (hg : XGs X K js tg gt set) (h1 : XSs X K W sts t m) (hs : ∀ x, foldedSetIterable it X.env x = pure x := by intro _; rfl) :
    XS X K W (.For tg it sts [] pos) (tFor wi gt t) (sFor itm set m) := ⟨hi.k, ps_for hpo hc hi.p hg.p h1.p hs, ss_for hi.s hg.s h1.s⟩
end
end Pd
set_option Elab.async false
set_option linter.all false
set_option maxRecDepth 100000
set_option maxHeartbeats 1000000
namespace Pd
open PySem L2

/-! ### defs -/
inductive Res where
  | rt (r : Rv) | ex (c : Str)
abbrev FS := En → Option (Res × En)
/-- the hot parameters behind the call -/
def outs : En → En → En
  | [], _ => []
  | .ow true _ :: as, .ow true h :: e => .ow true h :: outs as e
  | .ow _ _ :: as, _ :: e => .un :: outs as e
  | s :: as, _ :: e => s :: outs as e
  | as, [] => as.map fun s => match s with
    | .ow _ _ => .un
    | s => s
/-- what is handed back, with the hot parameters -/
def fin (as : En) (r : Res) (e : En) : Option (Res × En) := if as.length ≤ e.length then some (r, outs as e) else none
def fnS (N : Nat) (body : SM) : FS := fun as => match body (as ++ List.replicate (N - as.length) .un) with
  | some (.nx e) => fin as (.rt (.sh .non)) e
  | some (.rt r e) => fin as (.rt r) e
  | some (.ex c e) => fin as (.ex c) e
  | _ => none
theorem fin_some {as e as' : En} {r r' : Res} (h : fin as r e = some (r', as')) : as.length ≤ e.length ∧ r' = r ∧ as' = outs as e := by
  unfold fin at h
  split at h
  · cases Option.some.inj h
    exact ⟨by assumption, rfl, rfl⟩
  · cases h
def Rt (K : PySem.W.Frag) (B F : Hp) (am : Nat → Addr) (vs : List V) (as : En) (Q : VK) (E : XK) : Res → Prop
  | .rt (.sh d) => ∀ v F' H', Gr B F F' → Ok K B F' H' am (vs.map some) as → Rp K F' v d → Q v H'
  | .rt (.nw ds) => ∀ p ws F' H', Gr B F F' → Ok K B F' H' am (vs.map some) as → H' p = some (.lst ws) → F' p = none → B p = none → ¬ Hot (vs.map some) as p → RpL K F' ws ds → Q (.ref p) H'
  | .ex c => ∀ F' H', Gr B F F' → Ok K B F' H' am (vs.map some) as → E (.ref (He.ga K c)) none H'
def spD (K : PySem.W.Frag) (n : Nat) (fs : FS) : Sp := fun vs H Q E => vs.length = n ∧ ∃ B F am as r as', Ok K B F H am (vs.map some) as ∧ fs as = some (r, as') ∧ Rt K B F am vs as' Q E r
theorem out_at : ∀ (as e : En) (i : Nat), as.length ≤ e.length → (outs as e)[i]? = (match as[i]?, e[i]? with
    | some (.ow true _), some (.ow true h) => some (.ow true h)
    | some (.ow _ _), _ => some .un
    | s, _ => s)
  | [], e, i, _ => by
    cases e <;> simp [outs]
  | s :: as, [], i, h => by simp at h
  | s :: as, t :: e, 0, h => by
    cases s with
    | un => simp [outs]
    | sh d => simp [outs]
    | ow b x =>
      cases b with
      | true =>
        cases t with
        | un => simp [outs]
        | sh d => simp [outs]
        | ow b' y => cases b' <;> simp [outs]
      | false => simp [outs]
  | s :: as, t :: e, i + 1, h => by
    have ih := out_at as e i (by simpa using h)
    have e1 : (outs (s :: as) (t :: e))[i + 1]? = (outs as e)[i]? := by
      cases s with
      | un => simp [outs]
      | sh d => simp [outs]
      | ow b x =>
        cases b with
        | true =>
          cases t with
          | un => simp [outs]
          | sh d => simp [outs]
          | ow b' y => cases b' <;> simp [outs]
        | false => simp [outs]
    rw [e1, ih]
    simp
theorem out_sh {as e : En} {i : Nat} {d : D} (hl : as.length ≤ e.length) (q : (outs as e)[i]? = some (.sh d)) : as[i]? = some (.sh d) := by
  rw [out_at as e i hl] at q
  split at q
  · cases q
  · cases q
  · exact q
theorem out_ow {as e : En} {i : Nat} {b : Bool} {h : Hc} (hl : as.length ≤ e.length) (q : (outs as e)[i]? = some (.ow b h)) : b = true ∧ ∃ h0, as[i]? = some (.ow true h0) ∧ e[i]? = some (.ow true h) := by
  rw [out_at as e i hl] at q
  split at q
  · rename_i h0 h1 q1 q2
    cases Option.some.inj q
    exact ⟨rfl, h0, q1, q2⟩
  · cases q
  · rename_i n1
    exfalso
    first
      | exact n1 b h q
      | exact n1 h q
      | (cases b <;> simp_all)
theorem out_len : ∀ (as e : En), as.length ≤ e.length → (outs as e).length = as.length
  | [], e, _ => by cases e <;> simp [outs]
  | s :: as, [], h => by simp at h
  | s :: as, t :: e, h => by
    have ih := out_len as e (by simpa using h)
    cases s with
    | un => simp [outs, ih]
    | sh d => simp [outs, ih]
    | ow b x =>
      cases b with
      | true =>
        cases t with
        | un => simp [outs, ih]
        | sh d => simp [outs, ih]
        | ow b' y => cases b' <;> simp [outs, ih]
      | false => simp [outs, ih]
section
variable {K : PySem.W.Frag} {B F F' H H' : Hp} {am : Nat → Addr}
theorem Ok.outs {σ σ' : L2.St} {as e : En} (k : Ok K B F H am σ as) (k' : Ok K B F' H' am σ' e) (g : Gr B F F') (hl : as.length ≤ e.length) : Ok K B F' H' am σ (outs as e) where
  fh := k'.fh
  bh := k'.bh
  len := by rw [out_len as e hl]; exact k.len
  sh := fun i d q => by
    obtain ⟨v, h1, h2⟩ := k.sh i d (out_sh hl q)
    exact ⟨v, h1, h2.mono g.1⟩
  ow := fun i b h q => by
    obtain ⟨rfl, h0, q1, q2⟩ := out_ow hl q
    obtain ⟨a, o, y1, y2, y3, y4, y5, y6⟩ := k.ow i true h0 q1
    obtain ⟨a', o', z1, z2, z3, z4, z5, z6⟩ := k'.ow i true h q2
    have ea : a' = a := (z6 rfl).trans (y6 rfl).symm
    subst ea
    exact ⟨a', o', y1, z2, z3, z4, z5, z6⟩
  sep := fun i j b h b' h' a q1 q2 q3 q4 => by
    obtain ⟨_, _, w1, _⟩ := out_ow hl q1
    obtain ⟨_, _, w2, _⟩ := out_ow hl q2
    exact k.sep i j _ _ _ _ a w1 w2 q3 q4
/-- the entry of a body -/
theorem Ok.start {vs : List V} {as : En} {N : List Str} (k : Ok K B F H am (vs.map some) as) : Ok K B F H am (L2.start N vs) (as ++ List.replicate (N.length - as.length) .un) := by
  have hl : as.length = vs.length := by
    have := k.len
    rw [List.length_map] at this
    exact this.symm
  have sl : ∀ i : Nat, i < as.length → (L2.start N vs)[i]? = (vs.map some)[i]? := fun i h => by
    unfold L2.start
    rw [List.getElem?_append_left (by rw [List.length_map]; omega)]
  have ee : ∀ {i : Nat} {s : Sl}, (as ++ List.replicate (N.length - as.length) .un)[i]? = some s → s ≠ .un → i < as.length ∧ as[i]? = some s := fun {i s} q n => by
    by_cases h : i < as.length
    · rw [List.getElem?_append_left h] at q
      exact ⟨h, q⟩
    · rw [List.getElem?_append_right (by omega), List.getElem?_replicate] at q
      split at q
      · exact absurd (Option.some.inj q).symm n
      · cases q
  refine ⟨k.fh, k.bh, ?_, fun i d q => ?_, fun i b h q => ?_, fun i j b h b' h' a q1 q2 q3 q4 => ?_⟩
  · unfold L2.start
    rw [List.length_append, List.length_append, List.length_map, List.length_replicate, List.length_replicate, hl]
  · obtain ⟨h1, h2⟩ := ee q (fun z => by cases z)
    rw [sl i h1]
    exact k.sh i d h2
  · obtain ⟨h1, h2⟩ := ee q (fun z => by cases z)
    rw [sl i h1]
    exact k.ow i b h h2
  · obtain ⟨h1, h2⟩ := ee q1 (fun z => by cases z)
    obtain ⟨h3, h4⟩ := ee q2 (fun z => by cases z)
    rw [sl i h1] at q3
    rw [sl j h3] at q4
    exact k.sep i j b h b' h' a h2 h4 q3 q4
/-- a def's body keeps its promise -/
theorem body_of {t : TS} {m : SM} {N : List Str} {n : Nat} {vs : List V} {Q : VK} {E : XK} (hs : SS K E t m) (h : spD K n (fnS N.length m) vs H Q E) (hN : n ≤ N.length) : t { nx := fun _ H' => Q .non H', rt := Q } (start N vs) H := by
  obtain ⟨hl, B, F, am, as, r, as', k, q, hr⟩ := h
  have hl2 : as.length = n := by
    have := k.len
    rw [List.length_map] at this
    omega
  have k0 := k.start (N := N)
  have hlen : ∀ {σ' : L2.St} {F' H' : Hp} {e : En}, Ok K B F' H' am σ' e → True := fun _ => trivial
  unfold fnS at q
  split at q
  · rename_i e z
    obtain ⟨hle, rfl, rfl⟩ := fin_some q
    refine hs B F H am _ _ _ _ k0 z ?_
    intro σ' F' H' g' k'
    exact hr _ F' H' g' (k.outs k' g' hle) .non
  · rename_i r0 e z
    obtain ⟨hle, rfl, rfl⟩ := fin_some q
    refine hs B F H am _ _ _ _ k0 z ?_
    cases r0 with
    | sh d =>
      intro v σ' F' H' g' k' rr
      exact hr v F' H' g' (k.outs k' g' hle) rr
    | nw ds =>
      intro p ws σ' F' H' g' k' z1 z2 z3 z4 rr
      have ko := k.outs k' g' hle
      refine hr p ws F' H' g' ko z1 z2 z3 (fun hot => ?_) rr
      obtain ⟨i, b, h, q1, q2⟩ := hot
      obtain ⟨rfl, h0, w1, w2⟩ := out_ow hle q1
      obtain ⟨a, o, y1, _, _, _, _, y6⟩ := k.ow i true h0 w1
      rw [q2] at y1
      cases y1
      exact z4 i h w2 (y6 rfl).symm
  · rename_i c e z
    obtain ⟨hle, rfl, rfl⟩ := fin_some q
    refine hs B F H am _ _ _ _ k0 z ?_
    intro σ' F' H' g' k'
    exact hr F' H' g' (k.outs k' g' hle)
  · cases q
end
end Pd
set_option Elab.async false
set_option linter.all false
set_option maxRecDepth 100000
set_option maxHeartbeats 1000000
namespace Pd
open PySem L2

/-- the def at f: what it does to data -/
structure Df (P : Program) (w : World) (K : PySem.W.Frag) (mg : Str → Option Value) (base : Heap) (k : Nat) (f : Addr) (n : Nat) (fs : FS) : Prop where
  ex : ∃ (fd : FuncData) (ps : List Str), FnOk P w K mg base (L2.CX P w) k f fd ps (spD K n fs) ∧ PySem.W.keepIn K (.ref f) = true ∧ Binds K fd ps []
theorem Df.mono {P : Program} {w : World} {K : PySem.W.Frag} {mg : Str → Option Value} {base : Heap} {k j : Nat} {f : Addr} {n : Nat} {fs : FS} (d : Df P w K mg base k f n fs) (h : k ≤ j) : Df P w K mg base j f n fs := by
  obtain ⟨fd, ps, h1, h2, h3⟩ := d.ex
  exact ⟨fd, ps, h1.mono h, h2, h3⟩
theorem pass_no {X : Cx} : Passes (L2.CX X.prog X.w) X (fun _ _ _ => False) := passes_call takes0 fun _ _ _ _ h => h
theorem pass_on {X : Cx} {E : XK} (tk : Takes X (fun c d _ H => E c d H)) : Passes (L2.CX X.prog X.w) X E := passes_call tk fun _ _ _ _ h => h

section
variable {X : Cx} {K : PySem.W.Frag} {W : XK} {a b c : Expr} {es rest : List Expr} {ta tb tc te : TE} {f g h : M D} {pos : Pos}
variable {B F F' H H' : Hp} {am : Nat → Addr} {σ : L2.St} {e : En}
theorem Ok.after (k : Ok K B F H am σ e) (g : Gr H F F') (fh : Ex F' H') (hh : Ex H H') : Ok K B F' H' am σ e ∧ Gr B F F' :=
  ⟨k.step g.1 fh (k.bh.trans hh) fun a ha => by
    obtain ⟨h1, _, o, h3⟩ := k.hot ha
    exact ⟨g.2 a o h3 h1, by rw [h3]; exact hh _ _ h3⟩, g.1, fun a o hb hf => g.2 a o (k.bh _ _ hb) hf⟩
theorem argsOk (k : Ok K B F H am σ e) {vs : List V} {ds : List D} (r : RpL K F vs ds) : Ok K H F H am (vs.map some) (ds.map .sh) where
  fh := k.fh
  bh := Ex.refl H
  len := by rw [List.length_map, List.length_map]; exact r.length
  sh := fun i d q => by
    rw [List.getElem?_map] at q
    cases z : ds[i]? with
    | none =>
      rw [z] at q
      cases q
    | some d' =>
      rw [z] at q
      cases Option.some.inj q
      obtain ⟨v, h1, h2⟩ := r.get z
      exact ⟨v, by rw [List.getElem?_map, h1]; rfl, h2⟩
  ow := fun i b h q => by
    rw [List.getElem?_map] at q
    cases z : ds[i]? with
    | none =>
      rw [z] at q
      cases q
    | some d' =>
      rw [z] at q
      cases Option.some.inj q
  sep := fun i j b h b' h' a q => by
    rw [List.getElem?_map] at q
    cases z : ds[i]? with
    | none =>
      rw [z] at q
      cases q
    | some d' =>
      rw [z] at q
      cases Option.some.inj q
/-- what comes back of a call with data -/
def back (o : Option (Res × En)) : Option D := match o with
  | some (.rt (.sh d), _) => some d
  | some (.rt (.nw ds), _) => some (.lst ds)
  | _ => none
theorem back_call {fs : FS} {n : Nat} {vs : List V} {ds : List D} {d : D} {Q : VK} {E : XK} (k : Ok K B F H am σ e) (r : RpL K F vs ds) (hn : vs.length = n) (q : back (fs (ds.map .sh)) = some d)
    (h : ∀ v F' H', Gr B F F' → Ok K B F' H' am σ e → Rp K F' v d → Q v H') : spD K n fs vs H Q E := by
  unfold back at q
  split at q
  · rename_i d' as' z
    cases Option.some.inj q
    refine ⟨hn, H, F, am, _, _, as', argsOk k r, z, ?_⟩
    intro v F' H' g' k' rr
    obtain ⟨k2, g2⟩ := k.after g' k'.fh k'.bh
    exact h v F' H' g2 k2 rr
  · rename_i ls as' z
    cases Option.some.inj q
    refine ⟨hn, H, F, am, _, _, as', argsOk k r, z, ?_⟩
    intro p ws F' H' g' k' z1 z2 z3 z4 rr
    obtain ⟨k2, g2⟩ := k.after g' k'.fh k'.bh
    have nh : ¬ Hot σ e p := fun w => by
      obtain ⟨_, _, o, y⟩ := k.hot w
      rw [z3] at y
      cases y
    obtain ⟨k3, g3⟩ := k2.fix z1 z2 (k.bh.none z3) nh
    exact h _ _ _ (g2.trans g3) k3 (.lst upd_same (rr.mono g3.1))
  · cases q
def backN (o : Option (Res × En)) : Option (List D) := match o with
  | some (.rt (.nw ds), _) => some ds
  | _ => none
theorem backN_call {fs : FS} {n : Nat} {vs : List V} {ds ls : List D} {Q : VK} {E : XK} (k : Ok K B F H am σ e) (r : RpL K F vs ds) (hn : vs.length = n) (q : backN (fs (ds.map .sh)) = some ls)
    (h : ∀ p ws F' H', Gr B F F' → Ok K B F' H' am σ e → H' p = some (.lst ws) → F' p = none → B p = none → ¬ Hot σ e p → RpL K F' ws ls → Q (.ref p) H') : spD K n fs vs H Q E := by
  unfold backN at q
  split at q
  · rename_i ls as' z
    cases Option.some.inj q
    refine ⟨hn, H, F, am, _, _, as', argsOk k r, z, ?_⟩
    intro p ws F' H' g' k' z1 z2 z3 z4 rr
    obtain ⟨k2, g2⟩ := k.after g' k'.fh k'.bh
    have nh : ¬ Hot σ e p := fun w => by
      obtain ⟨_, _, o, y⟩ := k.hot w
      rw [z3] at y
      cases y
    exact h p ws F' H' g2 k2 z1 z2 (k.bh.none z3) nh rr
  · cases q
/-- a call, or an exception -/
def backX (o : Option (Res × En)) (e : En) : Option Fl := match o with
  | some (.rt _, _) => some (.nx e)
  | some (.ex c, _) => some (.ex c e)
  | none => none
theorem backX_call {fs : FS} {n : Nat} {vs : List V} {ds : List D} {fl : Fl} {D : Ends} (k : Ok K B F H am σ e) (r : RpL K F vs ds) (hn : vs.length = n) (q : backX (fs (ds.map .sh)) e = some fl)
    (h : Dn K B F am D W fl) : spD K n fs vs H (fun _ H' => D.nx σ H') W := by
  unfold backX at q
  split at q
  · rename_i rv as' z
    cases Option.some.inj q
    refine ⟨hn, H, F, am, _, _, as', argsOk k r, z, ?_⟩
    cases rv with
    | sh d =>
      intro v F' H' g' k' rr
      obtain ⟨k2, g2⟩ := k.after g' k'.fh k'.bh
      exact h σ F' H' g2 k2
    | nw ls =>
      intro p ws F' H' g' k' z1 z2 z3 z4 rr
      obtain ⟨k2, g2⟩ := k.after g' k'.fh k'.bh
      exact h σ F' H' g2 k2
  · rename_i c as' z
    cases Option.some.inj q
    refine ⟨hn, H, F, am, _, _, as', argsOk k r, z, ?_⟩
    intro F' H' g' k'
    obtain ⟨k2, g2⟩ := k.after g' k'.fh k'.bh
    exact h σ F' H' g2 k2
  · cases q
def lft' {α : Type} (o : Option α) : M α := lft o
def mCall (fs : FS) (l : M (List D)) : M D := bnd l fun ds => lft (back (fs (ds.map .sh)))
def mCallN (fs : FS) (l : M (List D)) : M (List D) := bnd l fun ds => lft (backN (fs (ds.map .sh)))
def sCallX (fs : FS) (l : M (List D)) : SM := fun e => match l e with
  | some (ds, e1) => backX (fs (ds.map .sh)) e1
  | none => none
theorem ee_call {n : Nat} {fs : FS} {t : TA} {l : M (List D)} {E : XK} (ha : EL K n t l) : EE K (tCall (spD K n fs) [] E t) (mCall fs l) := by
  intro B F H am σ e d e' Q k q h
  obtain ⟨ds, e1, q1, q2⟩ := bnd_some q
  obtain ⟨q3, rfl⟩ := lft_some q2
  refine ha B F H am σ e ds e' _ k q1 fun vs F1 H1 g1 k1 r1 l1 => ?_
  rw [List.append_nil]
  exact back_call k1 r1 l1 q3 fun v F' H' g' k' rr => h v F' H' (g1.trans g') k' rr
theorem ef_call {n : Nat} {fs : FS} {t : TA} {l : M (List D)} {E : XK} (ha : EL K n t l) : EF K (tCall (spD K n fs) [] E t) (mCallN fs l) := by
  intro B F H am σ e d e' Q k q h
  obtain ⟨ds, e1, q1, q2⟩ := bnd_some q
  obtain ⟨q3, rfl⟩ := lft_some q2
  refine ha B F H am σ e ds e' _ k q1 fun vs F1 H1 g1 k1 r1 l1 => ?_
  rw [List.append_nil]
  exact backN_call k1 r1 l1 q3 fun p ws F' H' g' k' => h p ws F' H' (g1.trans g') k'
theorem ss_callX {n : Nat} {fs : FS} {t : TA} {l : M (List D)} (ha : EL K n t l) : SS K W (tDrop (tCall (spD K n fs) [] W t)) (sCallX fs l) := by
  intro B F H am σ e fl D k q h
  unfold sCallX at q
  split at q
  · rename_i ds e1 z
    refine ha B F H am σ e ds e1 _ k z fun vs F1 H1 g1 k1 r1 l1 => ?_
    rw [List.append_nil]
    exact backX_call k1 r1 l1 q (h.up g1)
  · cases q
section
variable {n k : Nat} {fs : FS} {x : Str} {fa : Addr} {p p2 : Pos} {t : TA} {l : M (List D)}
theorem pe_callD {E : XK} (Fd : Df X.prog X.w X.K X.mg X.base k fa n fs) (hr : Room k X.A) (hm : X.mg x = some (.ref fa)) (hx : Passes (L2.CX X.prog X.w) X E) (ha : XL X K n (a :: es) t l) (hg : Gl X x) (hdb : (x == ("__debug__" : Str)) = false) (he : starEach (a :: es) X.env = (false, eval a X.env) :: starEach es X.env) (hpl : (backTo pos (starEach es X.env)).any (·.1) = false) :
    PE X (.Call (.Name x p) (a :: es) [] pos) (tCall (spD X.K n fs) [] E t) := by
  obtain ⟨fd, ps, h1, h2, h3⟩ := Fd.ex
  exact pe_call h1 hr hg hm h2 h3 .nil hx ha.p hdb he hpl
theorem xe_call (Fd : Df X.prog X.w X.K X.mg X.base k fa n fs) (hr : Room k X.A) (hm : X.mg x = some (.ref fa)) (ha : XL X K n (a :: es) t l) (hg : Gl X x := by rfl) (hdb : (x == ("__debug__" : Str)) = false := by decide) (he : starEach (a :: es) X.env = (false, eval a X.env) :: starEach es X.env := by rfl) (hpl : (backTo pos (starEach es X.env)).any (·.1) = false := by rfl) :
    XE X K (.Call (.Name x p) (a :: es) [] pos) (tCall (spD K n fs) [] (fun _ _ _ => False) t) (mCall fs l) := by
  have kk := ha.k
  subst kk
  exact ⟨rfl, pe_callD Fd hr hm pass_no ha hg hdb he hpl, ee_call ha.s⟩
theorem xf_call (Fd : Df X.prog X.w X.K X.mg X.base k fa n fs) (hr : Room k X.A) (hm : X.mg x = some (.ref fa)) (ha : XL X K n (a :: es) t l) (hg : Gl X x := by rfl) (hdb : (x == ("__debug__" : Str)) = false := by decide) (he : starEach (a :: es) X.env = (false, eval a X.env) :: starEach es X.env := by rfl) (hpl : (backTo pos (starEach es X.env)).any (·.1) = false := by rfl) :
    XF X K (.Call (.Name x p) (a :: es) [] pos) (tCall (spD K n fs) [] (fun _ _ _ => False) t) (mCallN fs l) := by
  have kk := ha.k
  subst kk
  exact ⟨rfl, pe_callD Fd hr hm pass_no ha hg hdb he hpl, ef_call ha.s⟩
theorem xs_callX (tk : Takes X (fun c d _ H => W c d H)) (Fd : Df X.prog X.w X.K X.mg X.base k fa n fs) (hr : Room k X.A) (hm : X.mg x = some (.ref fa)) (ha : XL X K n (a :: es) t l) (hg : Gl X x := by rfl) (hdb : (x == ("__debug__" : Str)) = false := by decide) (he : starEach (a :: es) X.env = (false, eval a X.env) :: starEach es X.env := by rfl) (hpl : (backTo pos (starEach es X.env)).any (·.1) = false := by rfl)
    (hs : swapsWith (.Call (.Name x p) (a :: es) [] pos) none p2.line X.env = pure false := by rfl) : XS X K W (.Expr (.Call (.Name x p) (a :: es) [] pos) p2) (tDrop (tCall (spD K n fs) [] W t)) (sCallX fs l) := by
  have kk := ha.k
  subst kk
  exact ⟨rfl, ps_expr (pe_callD Fd hr hm (pass_on tk) ha hg hdb he hpl) hs, ss_callX ha.s⟩
theorem xe_call0 (Fd : Df X.prog X.w X.K X.mg X.base k fa 0 fs) (hr : Room k X.A) (hm : X.mg x = some (.ref fa)) (hk : X.K = K := by rfl) (hg : Gl X x := by rfl) (hdb : (x == ("__debug__" : Str)) = false := by decide) :
    XE X K (.Call (.Name x p) [] [] pos) (tCall (spD K 0 fs) [] (fun _ _ _ => False) tNil) (mCall fs lNil) := by
  subst hk
  obtain ⟨fd, ps, h1, h2, h3⟩ := Fd.ex
  exact ⟨rfl, pe_call0 h1 hr hg hm h2 h3 .nil pass_no hdb, ee_call el_nil⟩
/-! ### methods -/
def slf (c m : Str) (f : M D) : M D := bnd f fun x => match x with
  | .obj c' fs => if c' = c ∧ fs.lookup m = none then ret (.obj c' fs) else fun _ => none
  | _ => fun _ => none
theorem slf_some {c m : Str} {f : M D} {e e' : En} {d : D} (q : slf c m f e = some (d, e')) : ∃ fs, d = .obj c fs ∧ fs.lookup m = none ∧ f e = some (d, e') := by
  obtain ⟨x, e1, q1, q2⟩ := bnd_some q
  split at q2
  · split at q2
    · rename_i hc
      obtain ⟨rfl, rfl⟩ := ret_some q2
      obtain ⟨rfl, h2⟩ := hc
      exact ⟨_, rfl, h2, q1⟩
    · cases q2
  · cases q2
def mMeth (c m : Str) (fs : FS) (s : M D) (l : M (List D)) : M D := bnd (slf c m s) fun o => bnd l fun ds => lft (back (fs ((o :: ds).map .sh)))
def mMethN (c m : Str) (fs : FS) (s : M D) (l : M (List D)) : M (List D) := bnd (slf c m s) fun o => bnd l fun ds => lft (backN (fs ((o :: ds).map .sh)))
def sMethX (c m : Str) (fs : FS) (s : M D) (l : M (List D)) : SM := fun e => match slf c m s e with
  | some (o, e1) => (match l e1 with
    | some (ds, e2) => backX (fs ((o :: ds).map .sh)) e2
    | none => none)
  | none => none
theorem ee_meth {c m : Str} {E : XK} (hs : EE K ta f) (ha : EL K n t l) : EE K (tMeth (He.ga K c) m (spD K (n + 1) fs) [] E ta t) (mMeth c m fs f l) := by
  intro B F H am σ e d e' Q k q h
  obtain ⟨o, e1, q1, q2⟩ := bnd_some q
  obtain ⟨ds, e2, q3, q4⟩ := bnd_some q2
  obtain ⟨q5, rfl⟩ := lft_some q4
  obtain ⟨fs', rfl, q6, q7⟩ := slf_some q1
  refine hs B F H am σ e _ e1 _ k q7 fun v F1 H1 g1 k1 r1 => ?_
  cases r1 with
  | @obj a0 dx _ vs0 _ ho rf =>
    refine ⟨a0, dx, vs0, rfl, k1.fh _ _ ho, rf.not q6, ha B F1 H1 am σ e1 ds e' _ k1 q3 fun vs F2 H2 g2 k2 r2 l2 => ?_⟩
    rw [List.append_nil]
    exact back_call k2 (.cons ((Rp.obj ho rf).mono g2.1) r2) (congrArg (· + 1) l2) q5 fun v F' H' g' k' rr => h v F' H' ((g1.trans g2).trans g') k' rr
theorem ef_meth {c m : Str} {E : XK} (hs : EE K ta f) (ha : EL K n t l) : EF K (tMeth (He.ga K c) m (spD K (n + 1) fs) [] E ta t) (mMethN c m fs f l) := by
  intro B F H am σ e d e' Q k q h
  obtain ⟨o, e1, q1, q2⟩ := bnd_some q
  obtain ⟨ds, e2, q3, q4⟩ := bnd_some q2
  obtain ⟨q5, rfl⟩ := lft_some q4
  obtain ⟨fs', rfl, q6, q7⟩ := slf_some q1
  refine hs B F H am σ e _ e1 _ k q7 fun v F1 H1 g1 k1 r1 => ?_
  cases r1 with
  | @obj a0 dx _ vs0 _ ho rf =>
    refine ⟨a0, dx, vs0, rfl, k1.fh _ _ ho, rf.not q6, ha B F1 H1 am σ e1 ds e' _ k1 q3 fun vs F2 H2 g2 k2 r2 l2 => ?_⟩
    rw [List.append_nil]
    exact backN_call k2 (.cons ((Rp.obj ho rf).mono g2.1) r2) (congrArg (· + 1) l2) q5 fun p ws F' H' g' k' => h p ws F' H' ((g1.trans g2).trans g') k'
theorem ss_methX {c m : Str} (hs : EE K ta f) (ha : EL K n t l) : SS K W (tDrop (tMeth (He.ga K c) m (spD K (n + 1) fs) [] W ta t)) (sMethX c m fs f l) := by
  intro B F H am σ e fl D k q h
  unfold sMethX at q
  split at q
  · rename_i o e1 q1
    split at q
    · rename_i ds e2 q3
      obtain ⟨fs', rfl, q6, q7⟩ := slf_some q1
      refine hs B F H am σ e _ e1 _ k q7 fun v F1 H1 g1 k1 r1 => ?_
      cases r1 with
      | @obj a0 dx _ vs0 _ ho rf =>
        refine ⟨a0, dx, vs0, rfl, k1.fh _ _ ho, rf.not q6, ha B F1 H1 am σ e1 ds e2 _ k1 q3 fun vs F2 H2 g2 k2 r2 l2 => ?_⟩
        rw [List.append_nil]
        exact backX_call k2 (.cons ((Rp.obj ho rf).mono g2.1) r2) (congrArg (· + 1) l2) q (h.up (g1.trans g2))
    · cases q
  · cases q
section
variable {o : Expr} {c m : Str} {apos : Pos} {pl : Sem Bool}
theorem pe_methD {E : XK} (hc : Cls X.K (He.ga X.K c)) (hm : Meth X.K (He.ga X.K c) m fa) (Fd : Df X.prog X.w X.K X.mg X.base k fa (n + 1) fs) (hr : Room k X.A) (hx : Passes (L2.CX X.prog X.w) X E) (ho : XE X K o ta f) (ha : XL X K n (a :: es) t l)
    (hst : starEach (a :: es) X.env = (false, eval a X.env) :: starEach es X.env) (hpl : (backTo pos (starEach es X.env)).any (·.1) = false)
    (ht : eval (.Call (.Attribute o m apos) (a :: es) [] pos) X.env = (do
      let ov ← eval o X.env
      standAt apos.atName
      let (f, first) ← holding [ov] (getMethod ov m pl)
      callWith pos f first (backTo pos (starEach (a :: es) X.env)) (backToKw pos (keywordEach [] X.env)))) :
    PE X (.Call (.Attribute o m apos) (a :: es) [] pos) (tMeth (He.ga X.K c) m (spD X.K (n + 1) fs) [] E ta t) := by
  obtain ⟨fd, ps, h1, h2, h3⟩ := Fd.ex
  exact pe_meth ho.p hc hm h1 hr h3 .nil hx ha.p hst hpl ht
theorem xe_meth (hc : Cls X.K (He.ga X.K c)) (hm : Meth X.K (He.ga X.K c) m fa) (Fd : Df X.prog X.w X.K X.mg X.base k fa (n + 1) fs) (hr : Room k X.A) (ho : XE X K o ta f) (ha : XL X K n (a :: es) t l)
    (hst : starEach (a :: es) X.env = (false, eval a X.env) :: starEach es X.env := by rfl) (hpl : (backTo pos (starEach es X.env)).any (·.1) = false := by rfl)
    (ht : eval (.Call (.Attribute o m apos) (a :: es) [] pos) X.env = (do
      let ov ← eval o X.env
      standAt apos.atName
      let (f, first) ← holding [ov] (getMethod ov m pl)
      callWith pos f first (backTo pos (starEach (a :: es) X.env)) (backToKw pos (keywordEach [] X.env))) := by rfl) :
    XE X K (.Call (.Attribute o m apos) (a :: es) [] pos) (tMeth (He.ga K c) m (spD K (n + 1) fs) [] (fun _ _ _ => False) ta t) (mMeth c m fs f l) := by
  have kk := ha.k
  subst kk
  exact ⟨rfl, pe_methD hc hm Fd hr pass_no ho ha hst hpl ht, ee_meth ho.s ha.s⟩
theorem xf_meth (hc : Cls X.K (He.ga X.K c)) (hm : Meth X.K (He.ga X.K c) m fa) (Fd : Df X.prog X.w X.K X.mg X.base k fa (n + 1) fs) (hr : Room k X.A) (ho : XE X K o ta f) (ha : XL X K n (a :: es) t l)
    (hst : starEach (a :: es) X.env = (false, eval a X.env) :: starEach es X.env := by rfl) (hpl : (backTo pos (starEach es X.env)).any (·.1) = false := by rfl)
    (ht : eval (.Call (.Attribute o m apos) (a :: es) [] pos) X.env = (do
      let ov ← eval o X.env
      standAt apos.atName
      let (f, first) ← holding [ov] (getMethod ov m pl)
      callWith pos f first (backTo pos (starEach (a :: es) X.env)) (backToKw pos (keywordEach [] X.env))) := by rfl) :
    XF X K (.Call (.Attribute o m apos) (a :: es) [] pos) (tMeth (He.ga K c) m (spD K (n + 1) fs) [] (fun _ _ _ => False) ta t) (mMethN c m fs f l) := by
  have kk := ha.k
  subst kk
  exact ⟨rfl, pe_methD hc hm Fd hr pass_no ho ha hst hpl ht, ef_meth ho.s ha.s⟩
theorem xs_methX (tk : Takes X (fun c d _ H => W c d H)) (hc : Cls X.K (He.ga X.K c)) (hm : Meth X.K (He.ga X.K c) m fa) (Fd : Df X.prog X.w X.K X.mg X.base k fa (n + 1) fs) (hr : Room k X.A) (ho : XE X K o ta f) (ha : XL X K n (a :: es) t l)
    (hst : starEach (a :: es) X.env = (false, eval a X.env) :: starEach es X.env := by rfl) (hpl : (backTo pos (starEach es X.env)).any (·.1) = false := by rfl)
    (ht : eval (.Call (.Attribute o m apos) (a :: es) [] pos) X.env = (do
      let ov ← eval o X.env
      standAt apos.atName
      let (f, first) ← holding [ov] (getMethod ov m pl)
      callWith pos f first (backTo pos (starEach (a :: es) X.env)) (backToKw pos (keywordEach [] X.env))) := by rfl)
    (hs : swapsWith (.Call (.Attribute o m apos) (a :: es) [] pos) none p2.line X.env = pure false := by rfl) : XS X K W (.Expr (.Call (.Attribute o m apos) (a :: es) [] pos) p2) (tDrop (tMeth (He.ga K c) m (spD K (n + 1) fs) [] W ta t)) (sMethX c m fs f l) := by
  have kk := ha.k
  subst kk
  exact ⟨rfl, ps_expr (pe_methD hc hm Fd hr (pass_on tk) ho ha hst hpl ht) hs, ss_methX ho.s ha.s⟩
end
end
end
end Pd
set_option Elab.async false
set_option linter.all false
set_option maxRecDepth 100000
set_option maxHeartbeats 1000000
namespace Pd
open PySem L2
section
variable {X : Cx} {K : PySem.W.Frag} {W : XK} {a b c : Expr} {es rest : List Expr} {ta tb tc te : TE} {f g h : M D} {pos : Pos}
variable {n k : Nat} {fs : FS} {x : Str} {fa : Addr} {p p2 : Pos} {t : TA} {l : M (List D)}

/-! ### methods without arguments -/
section
variable {o : Expr} {c m : Str} {apos : Pos} {pl : Sem Bool}
theorem pe_methD0 {E : XK} (hc : Cls X.K (He.ga X.K c)) (hm : Meth X.K (He.ga X.K c) m fa) (Fd : Df X.prog X.w X.K X.mg X.base k fa 1 fs) (hr : Room k X.A) (hx : Passes (L2.CX X.prog X.w) X E) (ho : XE X K o ta f)
    (ht : eval (.Call (.Attribute o m apos) [] [] pos) X.env = (do
      let ov ← eval o X.env
      standAt apos.atName
      let (f, first) ← holding [ov] (getMethod ov m pl)
      callWith pos f first (backTo pos (starEach [] X.env)) (backToKw pos (keywordEach [] X.env)))) :
    PE X (.Call (.Attribute o m apos) [] [] pos) (tMeth (He.ga X.K c) m (spD X.K 1 fs) [] E ta tNil) := by
  obtain ⟨fd, ps, h1, h2, h3⟩ := Fd.ex
  exact pe_meth0 ho.p hc hm h1 hr h3 .nil hx ht
theorem xe_meth0 (hc : Cls X.K (He.ga X.K c)) (hm : Meth X.K (He.ga X.K c) m fa) (Fd : Df X.prog X.w X.K X.mg X.base k fa 1 fs) (hr : Room k X.A) (ho : XE X K o ta f)
    (ht : eval (.Call (.Attribute o m apos) [] [] pos) X.env = (do
      let ov ← eval o X.env
      standAt apos.atName
      let (f, first) ← holding [ov] (getMethod ov m pl)
      callWith pos f first (backTo pos (starEach [] X.env)) (backToKw pos (keywordEach [] X.env))) := by rfl) :
    XE X K (.Call (.Attribute o m apos) [] [] pos) (tMeth (He.ga K c) m (spD K 1 fs) [] (fun _ _ _ => False) ta tNil) (mMeth c m fs f lNil) := by
  have kk := ho.k
  subst kk
  exact ⟨rfl, pe_methD0 hc hm Fd hr pass_no ho ht, ee_meth ho.s el_nil⟩
theorem xf_meth0 (hc : Cls X.K (He.ga X.K c)) (hm : Meth X.K (He.ga X.K c) m fa) (Fd : Df X.prog X.w X.K X.mg X.base k fa 1 fs) (hr : Room k X.A) (ho : XE X K o ta f)
    (ht : eval (.Call (.Attribute o m apos) [] [] pos) X.env = (do
      let ov ← eval o X.env
      standAt apos.atName
      let (f, first) ← holding [ov] (getMethod ov m pl)
      callWith pos f first (backTo pos (starEach [] X.env)) (backToKw pos (keywordEach [] X.env))) := by rfl) :
    XF X K (.Call (.Attribute o m apos) [] [] pos) (tMeth (He.ga K c) m (spD K 1 fs) [] (fun _ _ _ => False) ta tNil) (mMethN c m fs f lNil) := by
  have kk := ho.k
  subst kk
  exact ⟨rfl, pe_methD0 hc hm Fd hr pass_no ho ht, ef_meth ho.s el_nil⟩
end

/-! ### instances made -/
def backI (c : Str) (o : Option (Res × En)) : Option D := match o with
  | some (.rt (.sh .non), .ow true (.ins c' fs) :: _) => if c' = c then some (.obj c fs) else none
  | _ => none
section
variable {B F F' H H' : Hp} {am : Nat → Addr} {σ : L2.St} {e : En} {c : Str}
theorem makeOk (k : Ok K B F H am σ e) {vs : List V} {ds : List D} (r : RpL K F vs ds) {x dx : Addr} (hx : H x = none) (hdx : H dx = none) (ne : dx ≠ x) :
    Ok K (upd H dx (.own x)) F (upd (upd H dx (.own x)) x (.ins (He.ga K c) dx [])) (fun _ => x) ((V.ref x :: vs).map some) (.ow true (.ins c []) :: ds.map .sh) where
  fh := fun a o ha => by
    have h1 := k.fh _ _ ha
    rw [upd_ne (ne_of_none h1 hx), upd_ne (ne_of_none h1 hdx)]
    exact h1
  bh := Ex.new (by rw [upd_ne ne.symm]; exact hx)
  len := by
    rw [List.length_map, List.length_cons, List.length_cons, List.length_map]
    exact congrArg (· + 1) r.length
  sh := fun i d q => by
    cases i with
    | zero => cases Option.some.inj q
    | succ i =>
      obtain ⟨v, h1, h2⟩ := (argsOk k r).sh i d q
      exact ⟨v, h1, h2⟩
  ow := fun i b h q => by
    cases i with
    | zero =>
      cases Option.some.inj q
      exact ⟨x, _, rfl, k.fh.none hx, by rw [upd_ne ne.symm]; exact hx, upd_same, .ins .nil, fun _ => rfl⟩
    | succ i =>
      exact absurd q (fun z => by
        obtain ⟨a, o, y, _⟩ := (argsOk k r).ow i b h z
        have z' : (ds.map Sl.sh)[i]? = some (.ow b h) := z
        rw [List.getElem?_map] at z'
        cases w : ds[i]? with
        | none =>
          rw [w] at z'
          cases z'
        | some d' =>
          rw [w] at z'
          cases Option.some.inj z')
  sep := fun i j b h b' h' a q1 q2 _ _ => by
    have no : ∀ (i : Nat) (b : Bool) (h : Hc), (ds.map Sl.sh)[i]? = some (.ow b h) → False := fun i b h z' => by
      rw [List.getElem?_map] at z'
      cases w : ds[i]? with
      | none =>
        rw [w] at z'
        cases z'
      | some d' =>
        rw [w] at z'
        cases Option.some.inj z'
    cases i with
    | zero =>
      cases j with
      | zero => rfl
      | succ j => exact (no j b' h' q2).elim
    | succ i => exact (no i b h q1).elim
theorem make_after (k : Ok K B F H am σ e) {x dx : Addr} (hx : H x = none) (hdx : H dx = none) (g : Gr (upd H dx (.own x)) F F') (fh : Ex F' H') (hh : Ex (upd H dx (.own x)) H') : Ok K B F' H' am σ e ∧ Gr B F F' :=
  k.after ⟨g.1, fun a o h n => g.2 a o (by rw [upd_ne (ne_of_none h hdx)]; exact h) n⟩ fh ((Ex.new hdx).trans hh)
theorem backI_call {n : Nat} {vs : List V} {ds : List D} {d : D} {Q : VK} {E : XK} (k : Ok K B F H am σ e) (r : RpL K F vs ds) (hn : vs.length = n) {x dx : Addr} (hx : H x = none) (hdx : H dx = none) (ne : dx ≠ x)
    (q : backI c (fs (.ow true (.ins c []) :: ds.map .sh)) = some d) (h : ∀ F' H', Gr B F F' → Ok K B F' H' am σ e → Rp K F' (.ref x) d → Q (.ref x) H') :
    spD K (n + 1) fs (V.ref x :: vs) (upd (upd H dx (.own x)) x (.ins (He.ga K c) dx [])) (fun v H2 => v = .non ∧ Q (.ref x) H2) E := by
  unfold backI at q
  split at q
  · rename_i c' fs' rest z
    split at q
    · rename_i hc
      subst hc
      cases Option.some.inj q
      refine ⟨congrArg (· + 1) hn, _, F, _, _, _, _, makeOk k r hx hdx ne, z, ?_⟩
      intro v F' H' g' k' rr
      cases rr
      refine ⟨rfl, ?_⟩
      obtain ⟨k2, g2⟩ := make_after k hx hdx g' k'.fh k'.bh
      obtain ⟨a, o, y1, y2, y3, y4, y5, y6⟩ := k'.ow 0 true _ rfl
      cases Option.some.inj (Option.some.inj y1)
      cases y5 with
      | ins rf =>
        have nh : ¬ Hot σ e x := fun w => by
          obtain ⟨_, _, o, y⟩ := k.hot w
          rw [hx] at y
          cases y
        obtain ⟨k3, g3⟩ := k2.fix y4 y2 (k.bh.none hx) nh
        exact h _ _ (g2.trans g3) k3 (.obj upd_same (rf.mono g3.1))
    · cases q
  · cases q
/-- an instance made and dropped, or an exception -/
theorem backIX_call {n : Nat} {vs : List V} {ds : List D} {fl : Fl} {D : Ends} (k : Ok K B F H am σ e) (r : RpL K F vs ds) (hn : vs.length = n) {x dx : Addr} (hx : H x = none) (hdx : H dx = none) (ne : dx ≠ x)
    (q : (match fs (.ow true (.ins c []) :: ds.map .sh) with | some (.rt (.sh .non), _) => some (Fl.nx e) | some (.ex c', _) => some (Fl.ex c' e) | _ => none) = some fl) (h : Dn K B F am D W fl) :
    spD K (n + 1) fs (V.ref x :: vs) (upd (upd H dx (.own x)) x (.ins (He.ga K c) dx [])) (fun v H2 => v = .non ∧ D.nx σ H2) W := by
  split at q
  · rename_i as' z
    cases Option.some.inj q
    refine ⟨congrArg (· + 1) hn, _, F, _, _, _, _, makeOk k r hx hdx ne, z, ?_⟩
    intro v F' H' g' k' rr
    cases rr
    obtain ⟨k2, g2⟩ := make_after k hx hdx g' k'.fh k'.bh
    exact ⟨rfl, h σ F' H' g2 k2⟩
  · rename_i c' as' z
    cases Option.some.inj q
    refine ⟨congrArg (· + 1) hn, _, F, _, _, _, _, makeOk k r hx hdx ne, z, ?_⟩
    intro F' H' g' k'
    obtain ⟨k2, g2⟩ := make_after k hx hdx g' k'.fh k'.bh
    exact h σ F' H' g2 k2
  · cases q
end
def mMake (c : Str) (fs : FS) (l : M (List D)) : M D := bnd l fun ds => lft (backI c (fs (.ow true (.ins c []) :: ds.map .sh)))
def sMakeX (c : Str) (fs : FS) (l : M (List D)) : SM := fun e => match l e with
  | some (ds, e1) => (match fs (.ow true (.ins c []) :: ds.map .sh) with | some (.rt (.sh .non), _) => some (Fl.nx e1) | some (.ex c', _) => some (Fl.ex c' e1) | _ => none)
  | none => none
section
variable {c : Str}
theorem ee_make {E : XK} (ha : EL K n t l) : EE K (tMake (He.ga K c) (spD K (n + 1) fs) [] E t) (mMake c fs l) := by
  intro B F H am σ e d e' Q k q h
  obtain ⟨ds, e1, q1, q2⟩ := bnd_some q
  obtain ⟨q3, rfl⟩ := lft_some q2
  refine ha B F H am σ e ds e' _ k q1 fun vs F1 H1 g1 k1 r1 l1 => fun x dx hx hdx ne => ?_
  rw [List.append_nil]
  exact backI_call k1 r1 l1 hx hdx ne q3 fun F' H' g' k' rr => h _ F' H' (g1.trans g') k' rr
theorem ss_makeX (ha : EL K n t l) : SS K W (tDrop (tMake (He.ga K c) (spD K (n + 1) fs) [] W t)) (sMakeX c fs l) := by
  intro B F H am σ e fl D k q h
  unfold sMakeX at q
  split at q
  · rename_i ds e1 z
    refine ha B F H am σ e ds e1 _ k z fun vs F1 H1 g1 k1 r1 l1 => fun x dx hx hdx ne => ?_
    rw [List.append_nil]
    exact backIX_call k1 r1 l1 hx hdx ne q (h.up g1)
  · cases q
theorem pe_makeD {E : XK} (Mk0 : Mk X.K (He.ga X.K c) fa) (Fd : Df X.prog X.w X.K X.mg X.base k fa (n + 1) fs) (hr : Room (k + 1) X.A) (hm : X.mg c = some (.ref (He.ga X.K c))) (hx : Passes (L2.CX X.prog X.w) X E) (ha : XL X K n (a :: es) t l)
    (hg : Gl X c) (hdb : (c == ("__debug__" : Str)) = false) (he : starEach (a :: es) X.env = (false, eval a X.env) :: starEach es X.env) (hpl : (backTo pos (starEach es X.env)).any (·.1) = false) :
    PE X (.Call (.Name c p) (a :: es) [] pos) (tMake (He.ga X.K c) (spD X.K (n + 1) fs) [] E t) := by
  obtain ⟨fd, ps, h1, h2, h3⟩ := Fd.ex
  exact pe_make Mk0 h1 hr hg hm h3 .nil hx ha.p hdb he hpl
theorem xe_make (Mk0 : Mk X.K (He.ga X.K c) fa) (Fd : Df X.prog X.w X.K X.mg X.base k fa (n + 1) fs) (hr : Room (k + 1) X.A) (hm : X.mg c = some (.ref (He.ga X.K c))) (ha : XL X K n (a :: es) t l)
    (hg : Gl X c := by rfl) (hdb : (c == ("__debug__" : Str)) = false := by decide) (he : starEach (a :: es) X.env = (false, eval a X.env) :: starEach es X.env := by rfl) (hpl : (backTo pos (starEach es X.env)).any (·.1) = false := by rfl) :
    XE X K (.Call (.Name c p) (a :: es) [] pos) (tMake (He.ga K c) (spD K (n + 1) fs) [] (fun _ _ _ => False) t) (mMake c fs l) := by
  have kk := ha.k
  subst kk
  exact ⟨rfl, pe_makeD Mk0 Fd hr hm pass_no ha hg hdb he hpl, ee_make ha.s⟩
theorem xs_makeX (tk : Takes X (fun c d _ H => W c d H)) (Mk0 : Mk X.K (He.ga X.K c) fa) (Fd : Df X.prog X.w X.K X.mg X.base k fa (n + 1) fs) (hr : Room (k + 1) X.A) (hm : X.mg c = some (.ref (He.ga X.K c))) (ha : XL X K n (a :: es) t l)
    (hg : Gl X c := by rfl) (hdb : (c == ("__debug__" : Str)) = false := by decide) (he : starEach (a :: es) X.env = (false, eval a X.env) :: starEach es X.env := by rfl) (hpl : (backTo pos (starEach es X.env)).any (·.1) = false := by rfl)
    (hs : swapsWith (.Call (.Name c p) (a :: es) [] pos) none p2.line X.env = pure false := by rfl) :
    XS X K W (.Expr (.Call (.Name c p) (a :: es) [] pos) p2) (tDrop (tMake (He.ga K c) (spD K (n + 1) fs) [] W t)) (sMakeX c fs l) := by
  have kk := ha.k
  subst kk
  exact ⟨rfl, ps_expr (pe_makeD Mk0 Fd hr hm (pass_on tk) ha hg hdb he hpl) hs, ss_makeX ha.s⟩
end

/-! ### raise -/
structure Exq (K : PySem.W.Frag) (mg : Str → Option Value) (c : Str) : Prop where
  g : mg c = some (.ref (He.ga K c))
  x : PySem.W.excIn K (He.ga K c) He.veBase "ValueError.__new__" = true
  kp : PySem.W.keepIn K (.ref (He.ga K c)) = true
  s : PySem.W.subIn K (.ref (He.ga K c)) (.type "BaseException") = some true
  t : PySem.W.typeIn K (.ref (He.ga K c)) = some (.type "type")
def sRaise (c : Str) : SM := fun e => some (.ex c e)
theorem xs_raise {c m : Str} {j : Nat} {p2 pos2 : Pos} (hc : X.calm = true) (tk : Takes X (fun c d _ H => W c d H)) (E : Exq X.K X.mg c) (hk : X.K = K := by rfl) (hg : Gl X c := by rfl) (hdb : (c == ("__debug__" : Str)) = false := by decide) :
    XS X K W (.Raise (some (.Call (.Name c p) [.Constant (.str m) j p2] [] pos)) none pos2) (fun _ σ H => W (.ref (He.ga K c)) none H) (sRaise c) := by
  subst hk
  refine ⟨rfl, ps_raise hc tk (pmk_own PySem.F.excBase_ValueError E.x E.g E.kp (raises_own E.s E.t) hg hdb), ?_⟩
  intro B F H am σ e fl D k q h
  cases Option.some.inj q
  exact h σ F H (Gr.refl B F) k

/-! ### built-in calls -/
/-- of one value, the answer flat or the value itself -/
def CalS (K : PySem.W.Frag) (r : List V → Hp → VK → Prop) (o : D → Option D) : Prop := ∀ F H x dx d (Q : VK), Ex F H → Rp K F x dx → o dx = some d → (∀ v, Rp K F v d → Q v H) → r [x] H Q
theorem ee_cal {r : List V → Hp → VK → Prop} {o : D → Option D} (hr : CalS K r o) (ha : EE K ta f) : EE K (tCB r (tCons ta tNil)) (una o f) := by
  intro B F H am σ e d e' Q k q h
  obtain ⟨y, e1, q1, q2⟩ := bnd_some q
  obtain ⟨q3, rfl⟩ := lft_some q2
  exact ha B F H am σ e y e' _ k q1 fun v F1 H1 g1 k1 r1 => hr F1 H1 v y d Q k1.fh r1 q3 fun w r3 => h w F1 H1 g1 k1 r3
theorem xe_blt {id : String} {r : List V → Hp → VK → Prop} {o : D → Option D} (hc : CallR X (.builtin id) r) (hr : CalS K r o) (hm : X.mg x = none) (hv : bootBuiltins x = some (.builtin id)) (ha : XE X K a ta f) (hg : Gl X x := by rfl) (hn : x ≠ "__name__" := by decide) (hdb : (x == ("__debug__" : Str)) = false := by decide)
    (he : starEach (a :: []) X.env = (false, eval a X.env) :: starEach [] X.env := by rfl) (hpl : (backTo pos (starEach [] X.env)).any (·.1) = false := by rfl) : XE X K (.Call (.Name x p) [a] [] pos) (tCB r (tCons ta tNil)) (una o f) :=
  ⟨ha.k, pe_callB hc hg hm hv (pa_cons ha.p pa_nil he) hn hdb he hpl, ee_cal hr ha.s⟩
theorem xe_bty {T : String} {r : List V → Hp → VK → Prop} {o : D → Option D} (hc : CallR X (.type T) r) (hr : CalS K r o) (hm : X.mg x = none) (hv : bootBuiltins x = some (.type T)) (ha : XE X K a ta f) (hg : Gl X x := by rfl) (hn : x ≠ "__name__" := by decide) (hdb : (x == ("__debug__" : Str)) = false := by decide)
    (he : starEach (a :: []) X.env = (false, eval a X.env) :: starEach [] X.env := by rfl) (hpl : (backTo pos (starEach [] X.env)).any (·.1) = false := by rfl) : XE X K (.Call (.Name x p) [a] [] pos) (tCB r (tCons ta tNil)) (una o f) :=
  ⟨ha.k, pe_callTy hc hg hm hv (pa_cons ha.p pa_nil he) hn hdb he hpl, ee_cal hr ha.s⟩
def dInt : D → Option D
  | .int i => some (.int i)
  | .bl r => some (.int (if r then 1 else 0))
  | _ => none
abbrev rInt1 : List V → Hp → VK → Prop := fun xs H Q => (∃ i, xs = [.int i] ∧ Q (.int i) H) ∨ ∃ k, xs = [.bl k] ∧ Q (.int (if k then 1 else 0)) H
theorem cs_int : CalS K rInt1 dInt := by
  intro F H x dx d Q ex rx q h
  unfold dInt at q
  split at q
  · cases rx
    cases Option.some.inj q
    exact .inl ⟨_, rfl, h _ (.int _)⟩
  · cases rx
    cases Option.some.inj q
    exact .inr ⟨_, rfl, h _ (.int _)⟩
  · cases q
def dAbs : D → Option D
  | .int i => some (.int (if i < 0 then -i else i))
  | _ => none
abbrev rAbs : List V → Hp → VK → Prop := fun xs H Q => ∃ i, xs = [.int i] ∧ Q (.int (if i < 0 then -i else i)) H
theorem cs_abs : CalS K rAbs dAbs := by
  intro F H x dx d Q ex rx q h
  unfold dAbs at q
  split at q
  · cases rx
    cases Option.some.inj q
    exact ⟨_, rfl, h _ (.int _)⟩
  · cases q
def dLen : D → Option D
  | .lst ds => some (.int (ds.length : Nat))
  | .tup ds => some (.int (ds.length : Nat))
  | .scr ns => some (.int (ns.length : Nat))
  | _ => none
abbrev rLenQ (K : PySem.W.Frag) : List V → Hp → VK → Prop := fun xs H Q => ∃ p ys, xs = [.ref p] ∧ (SqL K H p ys ∨ SqT K H p ys) ∧ Q (.int ys.length) H
theorem cs_len : CalS K (rLenQ K) dLen := by
  intro F H x dx d Q ex rx q h
  unfold dLen at q
  split at q
  · cases Option.some.inj q
    cases rx with
    | lst hs r => exact ⟨_, _, rfl, .inl (SqL.of (ex _ _ hs)), by rw [r.length]; exact h _ (.int _)⟩
  · cases Option.some.inj q
    cases rx with
    | tup hs r => exact ⟨_, _, rfl, .inr (ex_t ex hs), by rw [r.length]; exact h _ (.int _)⟩
  · cases Option.some.inj q
    cases rx with
    | scr hs => exact ⟨_, _, rfl, .inl (ex_l ex hs), by rw [List.length_map]; exact h _ (.int _)⟩
  · cases q
theorem xe_intc (hm : X.mg "int" = none) (ha : XE X K a ta f) (hg : Gl X "int" := by rfl) (he : starEach (a :: []) X.env = (false, eval a X.env) :: starEach [] X.env := by rfl) (hpl : (backTo pos (starEach [] X.env)).any (·.1) = false := by rfl) :
    XE X K (.Call (.Name "int" p) [a] [] pos) (tCB rInt1 (tCons ta tNil)) (una dInt f) := xe_bty call_int1 cs_int hm (by decide +kernel) ha hg (by decide) (by decide) he hpl
theorem xe_abs (hm : X.mg "abs" = none) (ha : XE X K a ta f) (hg : Gl X "abs" := by rfl) (he : starEach (a :: []) X.env = (false, eval a X.env) :: starEach [] X.env := by rfl) (hpl : (backTo pos (starEach [] X.env)).any (·.1) = false := by rfl) :
    XE X K (.Call (.Name "abs" p) [a] [] pos) (tCB rAbs (tCons ta tNil)) (una dAbs f) := xe_blt call_abs cs_abs hm (by decide +kernel) ha hg (by decide) (by decide) he hpl
theorem xe_len (hm : X.mg "len" = none) (ha : XE X K a ta f) (hg : Gl X "len" := by rfl) (he : starEach (a :: []) X.env = (false, eval a X.env) :: starEach [] X.env := by rfl) (hpl : (backTo pos (starEach [] X.env)).any (·.1) = false := by rfl) :
    XE X K (.Call (.Name "len" p) [a] [] pos) (tCB (rLenQ K) (tCons ta tNil)) (una dLen f) := by
  have kk := ha.k
  subst kk
  exact xe_blt call_len_seq cs_len hm (by decide +kernel) ha hg (by decide) (by decide) he hpl
/-- len of a hot list -/
def lenh (i : Nat) : M D := fun e => match hotL e i with
  | some ds => some (.int (ds.length : Nat), e)
  | none => none
theorem ee_lenh (i : Nat) : EE K (tCB (rLenQ K) (tCons (tVar i) tNil)) (lenh i) := by
  intro B F H am σ e d e' Q k q h
  unfold lenh at q
  split at q
  · rename_i ds z
    cases Option.some.inj q
    obtain ⟨b, a, vs, _, y1, _, _, y4, y5⟩ := k.hotL z
    exact ⟨_, y1, _, _, rfl, .inl (SqL.of y4), by rw [y5.length]; exact h _ F H (Gr.refl B F) k (.int _)⟩
  · cases q
theorem xe_lenh (i : Nat) {y : Str} {py : Pos} (hm : X.mg "len" = none) (hN : X.N[i]? = some y) (hv : Vis X.env.scope y) (hk : X.K = K := by rfl) (hg : Gl X "len" := by rfl) (he : starEach ((Expr.Name y py) :: []) X.env = (false, eval (Expr.Name y py) X.env) :: starEach [] X.env := by rfl) (hpl : (backTo pos (starEach [] X.env)).any (·.1) = false := by rfl)
    (hd : (y == ("__debug__" : Str)) = false := by decide) (hcd : (y == ("__classdict__" : Str)) = false := by decide) :
    XE X K (.Call (.Name "len" p) [.Name y py] [] pos) (tCB (rLenQ K) (tCons (tVar i) tNil)) (lenh i) := by
  subst hk
  exact ⟨rfl, pe_callB call_len_seq hg hm (by decide +kernel) (pa_cons (pe_var hN hv hd hcd) pa_nil he) (by decide) (by decide) he hpl, ee_lenh i⟩
def allInts : List D → Option (List Int)
  | [] => some []
  | .int i :: r => (match allInts r with
    | some ns => some (i :: ns)
    | none => none)
  | _ :: _ => none
theorem allInts_eq : ∀ {ds : List D} {ns : List Int}, allInts ds = some ns → ds = ns.map D.int
  | [], ns, h => by
    cases Option.some.inj h
    rfl
  | .int i :: r, ns, h => by
    unfold allInts at h
    split at h
    · rename_i ns' z
      cases Option.some.inj h
      rw [allInts_eq z] <;> rfl
    · cases h
  | .non :: r, ns, h => by cases h
  | .bl _ :: r, ns, h => by cases h
  | .str _ :: r, ns, h => by cases h
  | .tup _ :: r, ns, h => by cases h
  | .lst _ :: r, ns, h => by cases h
  | .scr _ :: r, ns, h => by cases h
  | .obj _ _ :: r, ns, h => by cases h
theorem allInts_map : ∀ ns : List Int, allInts (ns.map D.int) = some ns
  | [] => rfl
  | n :: ns => by
    show (match allInts (ns.map D.int) with | some ns => some (n :: ns) | none => none) = _
    rw [allInts_map ns]
def allBls : List D → Option (List Bool)
  | [] => some []
  | .bl i :: r => (match allBls r with
    | some ns => some (i :: ns)
    | none => none)
  | _ :: _ => none
theorem allBls_eq : ∀ {ds : List D} {ns : List Bool}, allBls ds = some ns → ds = ns.map D.bl
  | [], ns, h => by
    cases Option.some.inj h
    rfl
  | .bl i :: r, ns, h => by
    unfold allBls at h
    split at h
    · rename_i ns' z
      cases Option.some.inj h
      rw [allBls_eq z] <;> rfl
    · cases h
  | .non :: r, ns, h => by cases h
  | .int _ :: r, ns, h => by cases h
  | .str _ :: r, ns, h => by cases h
  | .tup _ :: r, ns, h => by cases h
  | .lst _ :: r, ns, h => by cases h
  | .scr _ :: r, ns, h => by cases h
  | .obj _ _ :: r, ns, h => by cases h
theorem allBls_map : ∀ ns : List Bool, allBls (ns.map D.bl) = some ns
  | [] => rfl
  | n :: ns => by
    show (match allBls (ns.map D.bl) with | some ns => some (n :: ns) | none => none) = _
    rw [allBls_map ns]
def dSum : D → Option D
  | .lst ds => (match allInts ds with
    | some ns => some (.int ns.sum)
    | none => none)
  | _ => none
theorem cs_sum : CalS K (rSum K) dSum := by
  intro F H x dx d Q ex rx q h
  unfold dSum at q
  split at q
  · split at q
    · rename_i ns z
      cases Option.some.inj q
      cases rx with
      | lst hs r =>
        rw [allInts_eq z] at r
        refine ⟨_, ns, rfl, ?_, h _ (.int _)⟩
        rw [← r.ints]
        exact SqL.of (ex _ _ hs)
    · cases q
  · cases q
def dAll : D → Option D
  | .lst ds => (match allBls ds with
    | some ns => some (.bl (ns.all id))
    | none => none)
  | _ => none
def dAny : D → Option D
  | .lst ds => (match allBls ds with
    | some ns => some (.bl (ns.any id))
    | none => none)
  | _ => none
theorem cs_all : CalS K (rAll K) dAll := by
  intro F H x dx d Q ex rx q h
  unfold dAll at q
  split at q
  · split at q
    · rename_i ns z
      cases Option.some.inj q
      cases rx with
      | lst hs r =>
        rw [allBls_eq z] at r
        refine ⟨_, ns, rfl, ?_, h _ (.bl _)⟩
        rw [← r.bls]
        exact SqL.of (ex _ _ hs)
    · cases q
  · cases q
theorem cs_any : CalS K (rAny K) dAny := by
  intro F H x dx d Q ex rx q h
  unfold dAny at q
  split at q
  · split at q
    · rename_i ns z
      cases Option.some.inj q
      cases rx with
      | lst hs r =>
        rw [allBls_eq z] at r
        refine ⟨_, ns, rfl, ?_, h _ (.bl _)⟩
        rw [← r.bls]
        exact SqL.of (ex _ _ hs)
    · cases q
  · cases q
theorem xe_sum (hc : X.calm = true) (hm : X.mg "sum" = none) (ha : XE X K a ta f) (hg : Gl X "sum" := by rfl) (he : starEach (a :: []) X.env = (false, eval a X.env) :: starEach [] X.env := by rfl) (hpl : (backTo pos (starEach [] X.env)).any (·.1) = false := by rfl) :
    XE X K (.Call (.Name "sum" p) [a] [] pos) (tCB (rSum K) (tCons ta tNil)) (una dSum f) := by
  have kk := ha.k
  subst kk
  exact xe_blt (cr_sum hc) cs_sum hm (by decide +kernel) ha hg (by decide) (by decide) he hpl
theorem xe_all (hc : X.calm = true) (hm : X.mg "all" = none) (ha : XE X K a ta f) (hg : Gl X "all" := by rfl) (he : starEach (a :: []) X.env = (false, eval a X.env) :: starEach [] X.env := by rfl) (hpl : (backTo pos (starEach [] X.env)).any (·.1) = false := by rfl) :
    XE X K (.Call (.Name "all" p) [a] [] pos) (tCB (rAll K) (tCons ta tNil)) (una dAll f) := by
  have kk := ha.k
  subst kk
  exact xe_blt (cr_all hc) cs_all hm (by decide +kernel) ha hg (by decide) (by decide) he hpl
theorem xe_any (hc : X.calm = true) (hm : X.mg "any" = none) (ha : XE X K a ta f) (hg : Gl X "any" := by rfl) (he : starEach (a :: []) X.env = (false, eval a X.env) :: starEach [] X.env := by rfl) (hpl : (backTo pos (starEach [] X.env)).any (·.1) = false := by rfl) :
    XE X K (.Call (.Name "any" p) [a] [] pos) (tCB (rAny K) (tCons ta tNil)) (una dAny f) := by
  have kk := ha.k
  subst kk
  exact xe_blt (cr_any hc) cs_any hm (by decide +kernel) ha hg (by decide) (by decide) he hpl
/-- list(x): a new list -/
def mListOf (f : M D) : M (List D) := bnd f fun x => match x with
  | .lst ds => ret ds
  | .tup ds => ret ds
  | .scr ns => ret (ns.map D.int)
  | _ => fun _ => none
abbrev rListQ (K : PySem.W.Frag) : List V → Hp → VK → Prop := fun xs H Q => ∃ p ys, xs = [.ref p] ∧ (SqL K H p ys ∨ SqT K H p ys) ∧ ∀ l, H l = none → Q (.ref l) (upd H l (.lst ys))
theorem ef_listOf (ha : EE K ta f) : EF K (tCB (rListQ K) (tCons ta tNil)) (mListOf f) := by
  intro B F H am σ e ds e' Q k q h
  obtain ⟨x, e1, q1, q2⟩ := bnd_some q
  refine ha B F H am σ e x e1 _ k q1 fun v F1 H1 g1 k1 r1 => ?_
  split at q2
  · obtain ⟨rfl, rfl⟩ := ret_some q2
    cases r1 with
    | lst hs r =>
      refine ⟨_, _, rfl, .inl (SqL.of (k1.fh _ _ hs)), fun p hp => ?_⟩
      obtain ⟨k2, z1, z2, z3⟩ := k1.newHot (o := .lst _) hp
      exact h p _ F1 _ g1 k2 upd_same z1 z2 z3 r
  · obtain ⟨rfl, rfl⟩ := ret_some q2
    cases r1 with
    | tup hs r =>
      refine ⟨_, _, rfl, .inr (ex_t k1.fh hs), fun p hp => ?_⟩
      obtain ⟨k2, z1, z2, z3⟩ := k1.newHot (o := .lst _) hp
      exact h p _ F1 _ g1 k2 upd_same z1 z2 z3 r
  · obtain ⟨rfl, rfl⟩ := ret_some q2
    cases r1 with
    | scr hs =>
      refine ⟨_, _, rfl, .inl (ex_l k1.fh hs), fun p hp => ?_⟩
      obtain ⟨k2, z1, z2, z3⟩ := k1.newHot (o := .lst _) hp
      exact h p _ F1 _ g1 k2 upd_same z1 z2 z3 (RpL.ofInts _)
  · cases q2
theorem xf_listOf (hm : X.mg "list" = none) (ha : XE X K a ta f) (hg : Gl X "list" := by rfl) (he : starEach (a :: []) X.env = (false, eval a X.env) :: starEach [] X.env := by rfl) (hpl : (backTo pos (starEach [] X.env)).any (·.1) = false := by rfl) :
    XF X K (.Call (.Name "list" p) [a] [] pos) (tCB (rListQ K) (tCons ta tNil)) (mListOf f) := by
  have kk := ha.k
  subst kk
  exact ⟨rfl, pe_callTy call_list_of hg hm (by decide +kernel) (pa_cons ha.p pa_nil he) (by decide) (by decide) he hpl, ef_listOf ha.s⟩
/-- list(x), x hot -/
def mListH (i : Nat) : M (List D) := fun e => match hotL e i with
  | some ds => some (ds, e)
  | none => none
theorem ef_listH (i : Nat) : EF K (tCB (rListQ K) (tCons (tVar i) tNil)) (mListH i) := by
  intro B F H am σ e ds e' Q k q h
  unfold mListH at q
  split at q
  · rename_i ds' z
    cases Option.some.inj q
    obtain ⟨b, a, vs, _, y1, _, _, y4, y5⟩ := k.hotL z
    refine ⟨_, y1, _, _, rfl, .inl (SqL.of y4), fun p hp => ?_⟩
    obtain ⟨k2, z1, z2, z3⟩ := k.newHot (o := .lst vs) hp
    exact h p _ F _ (Gr.refl B F) k2 upd_same z1 z2 z3 y5
  · cases q
theorem xf_listH (i : Nat) {y : Str} {py : Pos} (hm : X.mg "list" = none) (hN : X.N[i]? = some y) (hv : Vis X.env.scope y) (hk : X.K = K := by rfl) (hg : Gl X "list" := by rfl) (he : starEach ((Expr.Name y py) :: []) X.env = (false, eval (Expr.Name y py) X.env) :: starEach [] X.env := by rfl) (hpl : (backTo pos (starEach [] X.env)).any (·.1) = false := by rfl)
    (hd : (y == ("__debug__" : Str)) = false := by decide) (hcd : (y == ("__classdict__" : Str)) = false := by decide) :
    XF X K (.Call (.Name "list" p) [.Name y py] [] pos) (tCB (rListQ K) (tCons (tVar i) tNil)) (mListH i) := by
  subst hk
  exact ⟨rfl, pe_callTy call_list_of hg hm (by decide +kernel) (pa_cons (pe_var hN hv hd hcd) pa_nil he) (by decide) (by decide) he hpl, ef_listH i⟩
/-- tuple(x) -/
def mTupleOf (f : M D) : M D := bnd f fun x => match x with
  | .lst ds => ret (.tup ds)
  | .tup ds => ret (.tup ds)
  | _ => fun _ => none
abbrev rTupleQ (K : PySem.W.Frag) : List V → Hp → VK → Prop := fun xs H Q => ∃ p ys, xs = [.ref p] ∧ ((SqL K H p ys ∧ ∀ l, H l = none → Q (.ref l) (upd H l (.tup ys))) ∨ (SqT K H p ys ∧ Q (.ref p) H))
theorem ee_tupleOf (ha : EE K ta f) : EE K (tCB (rTupleQ K) (tCons ta tNil)) (mTupleOf f) := by
  intro B F H am σ e d e' Q k q h
  obtain ⟨x, e1, q1, q2⟩ := bnd_some q
  refine ha B F H am σ e x e1 _ k q1 fun v F1 H1 g1 k1 r1 => ?_
  split at q2
  · obtain ⟨rfl, rfl⟩ := ret_some q2
    cases r1 with
    | @lst a0 vs ds hs r =>
      refine ⟨_, vs, rfl, .inl ⟨SqL.of (k1.fh _ _ hs), fun p hp => ?_⟩⟩
      obtain ⟨k2, g2⟩ := k1.new (o := .tup vs) hp
      exact h _ _ _ (g1.trans g2) k2 (.tup (SqT.of upd_same) (r.mono g2.1))
  · obtain ⟨rfl, rfl⟩ := ret_some q2
    cases r1 with
    | tup hs r => exact ⟨_, _, rfl, .inr ⟨ex_t k1.fh hs, h _ F1 H1 g1 k1 (.tup hs r)⟩⟩
  · cases q2
theorem xe_tupleOf (hm : X.mg "tuple" = none) (ha : XE X K a ta f) (hg : Gl X "tuple" := by rfl) (he : starEach (a :: []) X.env = (false, eval a X.env) :: starEach [] X.env := by rfl) (hpl : (backTo pos (starEach [] X.env)).any (·.1) = false := by rfl) :
    XE X K (.Call (.Name "tuple" p) [a] [] pos) (tCB (rTupleQ K) (tCons ta tNil)) (mTupleOf f) := by
  have kk := ha.k
  subst kk
  exact ⟨rfl, pe_callTy call_tuple_of hg hm (by decide +kernel) (pa_cons ha.p pa_nil he) (by decide) (by decide) he hpl, ee_tupleOf ha.s⟩
end
end Pd
set_option Elab.async false
set_option linter.all false
set_option maxRecDepth 100000
set_option maxHeartbeats 1000000
namespace Pd
open PySem L2
section
variable {X : Cx} {K : PySem.W.Frag} {W : XK} {a b c : Expr} {es rest : List Expr} {ta tb tc te : TE} {f g h : M D} {pos : Pos}
variable {n k : Nat} {fs : FS} {x : Str} {fa : Addr} {p p2 : Pos} {t : TA} {l : M (List D)}

/-! ### isinstance -/
def tnm : D → Option String
  | .non => some "NoneType"
  | .bl _ => some "bool"
  | .int _ => some "int"
  | .str _ => some "str"
  | .tup _ => some "tuple"
  | .lst _ => some "list"
  | _ => none
def dIsi (T : String) (d : D) : Option D := match tnm d with
  | some s => (match kitB s T with
    | some r => some (.bl r)
    | none => none)
  | none => none
theorem tyx_of {F H : Hp} {v : V} {d : D} {s : String} (ex : Ex F H) (r : Rp K F v d) (h : tnm d = some s) : TyX K H v (.type s) := by
  cases r with
  | non => cases Option.some.inj h; exact .base .non
  | bl b => cases Option.some.inj h; exact .base (.bl b)
  | int i => cases Option.some.inj h; exact .base (.int i)
  | str z => cases Option.some.inj h; exact .base (.str z)
  | tup hs r =>
    cases Option.some.inj h
    rcases hs with hs | ⟨o, its, n, h1, h2, h3, _⟩
    · rcases hs with hs | ⟨o, hs⟩
      · exact .base (.tup (ex _ _ hs))
      · exact .fTuple (ex _ _ hs)
    · exact .kTuple h1 h2
  | lst hs r => cases Option.some.inj h; exact .base (.lst (ex _ _ hs))
  | scr hs => cases h
  | obj ho r => cases h
  | dic hs q r => cases h
  | dit hs q r => cases h
theorem ee_isi {T : String} (ha : EE K ta f) : EE K (tCB (rIsi K) (tCons ta (tCons (tC (.ty T)) tNil))) (una (dIsi T) f) := by
  intro B F H am σ e d e' Q k q h
  obtain ⟨y, e1, q1, q2⟩ := bnd_some q
  obtain ⟨q3, rfl⟩ := lft_some q2
  refine ha B F H am σ e y e' _ k q1 fun v F1 H1 g1 k1 r1 => ?_
  unfold dIsi at q3
  split at q3
  · rename_i s hs
    split at q3
    · rename_i r hr
      cases Option.some.inj q3
      exact ⟨v, .ty T, .type s, .type T, r, rfl, .ty T, tyx_of k1.fh r1 hs, kit_ty hr, h _ F1 H1 g1 k1 (.bl r)⟩
    · cases q3
  · cases q3
theorem xe_isi {T : String} {px : Pos} {T' : Str} (hm : X.mg "isinstance" = none) (hmT : X.mg T' = none) (hbT : bootBuiltins T' = some (.type T)) (ha : XE X K a ta f) (hg : Gl X "isinstance" := by rfl) (hgT : Gl X T' := by rfl) (hnT : T' ≠ "__name__" := by decide) (hdT : (T' == ("__debug__" : Str)) = false := by decide)
    (he : starEach (a :: [.Name T' px]) X.env = (false, eval a X.env) :: starEach [.Name T' px] X.env := by rfl) (he2 : starEach ((.Name T' px) :: []) X.env = (false, eval (.Name T' px) X.env) :: starEach [] X.env := by rfl) (hpl : (backTo pos (starEach [.Name T' px] X.env)).any (·.1) = false := by rfl) :
    XE X K (.Call (.Name "isinstance" p) [a, .Name T' px] [] pos) (tCB (rIsi K) (tCons ta (tCons (tC (.ty T)) tNil))) (una (dIsi T) f) := by
  have kk := ha.k
  subst kk
  exact ⟨rfl, pe_callB call_isi hg hm (by decide +kernel) (pa_cons ha.p (pa_cons (pe_bltn hgT hmT hbT rfl hnT hdT) pa_nil he2) he) (by decide) (by decide) he hpl, ee_isi ha.s⟩

/-! ### in, not in: ints in a list or tuple of ints -/
def dIn (neg : Bool) : D → D → Option D
  | .int i, .lst ds => (match allInts ds with
    | some ns => some (.bl (if neg then !ns.contains i else ns.contains i))
    | none => none)
  | .int i, .tup ds => (match allInts ds with
    | some ns => some (.bl (if neg then !ns.contains i else ns.contains i))
    | none => none)
  | _, _ => none
theorem inV_ints (i : Int) : ∀ ns : List Int, inV (.int i) (ns.map V.int) = ns.contains i
  | [] => rfl
  | n :: ns => by
    have ih := inV_ints i ns
    unfold inV at ih ⊢
    rw [List.map_cons, List.any_cons, ih, List.contains_cons]
    congr 1
    show eqV (.int n) (.int i) = (i == n)
    simp only [eqV]
    rw [Bool.beq_comm]
theorem flat_ints : ∀ ns : List Int, (ns.map V.int).all flatV = true
  | [] => rfl
  | _ :: ns => by
    rw [List.map_cons, List.all_cons, flat_ints ns] <;> rfl
theorem bs_in (neg : Bool) : BinS K (rIn K neg) (dIn neg) := by
  intro F H x dx y dy d Q ex rx ry q h
  unfold dIn at q
  split at q
  · split at q
    · rename_i ns z
      cases Option.some.inj q
      cases rx
      cases ry with
      | lst hs r =>
        rw [allInts_eq z] at r
        have e := r.ints
        subst e
        exact ⟨_, _, rfl, .inl (SqL.of (ex _ _ hs)), rfl, flat_ints ns, by rw [inV_ints]; exact h _ (.bl _)⟩
    · cases q
  · split at q
    · rename_i ns z
      cases Option.some.inj q
      cases rx
      cases ry with
      | tup hs r =>
        rw [allInts_eq z] at r
        have e := r.ints
        subst e
        exact ⟨_, _, rfl, .inr (ex_t ex hs), rfl, flat_ints ns, by rw [inV_ints]; exact h _ (.bl _)⟩
    · cases q
  · cases q
theorem xe_in (ha : XE X K a ta f) (hb : XE X K b tb g) (hm : behindInMarks .In b = false := by rfl) : XE X K (.Compare a [.In] [b] pos) (tOp (rIn K false) ta tb) (bin (dIn false) f g) := by
  have k := ha.k
  subst k
  exact xe_cmp op_in_seq (bs_in false) ha hb hm
theorem xe_nin (ha : XE X K a ta f) (hb : XE X K b tb g) (hm : behindInMarks .NotIn b = false := by rfl) : XE X K (.Compare a [.NotIn] [b] pos) (tOp (rIn K true) ta tb) (bin (dIn true) f g) := by
  have k := ha.k
  subst k
  exact xe_cmp op_notIn_seq (bs_in true) ha hb hm
theorem xt_in (ha : XE X K a ta f) (hb : XE X K b tb g) (hm : behindInMarks .In b = false := by rfl) : XT X K (.Compare a [.In] [b] pos) (tTest (tOp (rIn K false) ta tb)) (asB (bin (dIn false) f g)) := by
  have k := ha.k
  subst k
  exact xt_cmp op_in_seq (bs_in false) ha hb hm
theorem xt_nin (ha : XE X K a ta f) (hb : XE X K b tb g) (hm : behindInMarks .NotIn b = false := by rfl) : XT X K (.Compare a [.NotIn] [b] pos) (tTest (tOp (rIn K true) ta tb)) (asB (bin (dIn true) f g)) := by
  have k := ha.k
  subst k
  exact xt_cmp op_notIn_seq (bs_in true) ha hb hm
end

/-! ### a def, whole -/
section
variable {P : Program} {w : World} {K : PySem.W.Frag} {mg : Str → Option Value} {base : Heap}
theorem df_of {x qual : Str} {params : Arguments} {body : List Stmt} {scope : Scope} {f : Addr} {fd : FuncData} {N ps : List Str} {k n : Nat} {m : SM} (F : FunD K x qual params body scope [] [] f fd) (S : FnScope N ps scope) (hn : ps.length = n) (hN : n ≤ N.length)
    (hb : ∀ (kV doc pm : Value) (an : Option Addr) (cdv ct : Value) (us : List Value), us.length = ps.length → bindArgs (PySem.W.fnOf x qual params body scope .none kV doc pm an cdv ct) ⟨us, []⟩ = pure (ps.zip us))
    (hbody : ∀ (cdv : Value) (A : Around) (outer : List Env) (s : Shared) (H : Hp) (E : XK), Room k (A.deeper (PyProof.Rows.envOfC qual scope s.heap.objs.size f cdv)) →
      ∃ t, XSs (cxOf (L2.CX P w) P w K mg base N qual scope f cdv A outer s H E) K E body t m) : Df P w K mg base (k + 1) f n (fnS N.length m) := by
  refine ⟨fd, ps, F.ok S (fun vs H Q E h => h.1.trans hn.symm) fun cdv A outer s H vs Q E hr h => ?_, F.kp, F.bindsN hb⟩
  obtain ⟨t, ht⟩ := hbody cdv A outer s H E hr
  exact ⟨t, ht.p, body_of ht.s h hN⟩
theorem takes_fn {N : List Str} {qual : Str} {scope : Scope} {f : Addr} {cdv : Value} {A : Around} {outer : List Env} {s : Shared} {H : Hp} {E : XK} : Takes (cxOf (L2.CX P w) P w K mg base N qual scope f cdv A outer s H E) (fun c d _ H => E c d H) := takes_of rfl rfl rfl rfl
theorem passes_fn {N : List Str} {qual : Str} {scope : Scope} {f : Addr} {cdv : Value} {A : Around} {outer : List Env} {s : Shared} {H : Hp} {E : XK} : PassesOwn (model P w) (cxOf (L2.CX P w) P w K mg base N qual scope f cdv A outer s H E).A (cxOf (L2.CX P w) P w K mg base N qual scope f cdv A outer s H E).env (cxOf (L2.CX P w) P w K mg base N qual scope f cdv A outer s H E).xe := passes_of rfl
end

/-! ### the head: constants -/
mutual
def valB (K : PySem.W.Frag) : Value → D → Bool
  | .none, .non => true
  | .bool b, .bl c => b == c
  | .int i _, .int j => decide (i = j)
  | .ref a, .tup ds => (match K.lookup a with
    | some ⟨.type c, _, .seq its _, _⟩ => decide (c = "tuple") && (decide (its.size ≤ sizeLine) && valLB K its.toList ds)
    | _ => false)
  | _, _ => false
def valLB (K : PySem.W.Frag) : List Value → List D → Bool
  | [], [] => true
  | u :: us, d :: ds => valB K u d && valLB K us ds
  | _, _ => false
end
mutual
theorem valB_ok {K : PySem.W.Frag} : ∀ {d : D} {u : Value}, valB K u d = true → ∃ v, RelV v u ∧ ∀ F, Rp K F v d
  | .non, u, h => by
    cases u <;> simp only [valB] at h <;> first | exact ⟨.non, rfl, fun _ => .non⟩ | cases h
  | .bl c, u, h => by
    cases u <;> simp only [valB] at h <;> first | (rename_i b; exact ⟨.bl c, by rw [eq_of_beq h]; rfl, fun _ => .bl c⟩) | cases h
  | .int j, u, h => by
    cases u <;> simp only [valB] at h <;> first | (rename_i i t; exact ⟨.int j, ⟨t, by rw [of_decide_eq_true h]⟩, fun _ => .int j⟩) | cases h
  | .tup ds, u, h => by
    cases u with
    | ref a =>
      simp only [valB] at h
      split at h
      · rename_i c od its n sl z
        obtain ⟨h1, h2⟩ := Bool.and_eq_true_iff.mp h
        obtain ⟨h3, h4⟩ := Bool.and_eq_true_iff.mp h2
        obtain ⟨vs, r1, r2⟩ := valLB_ok h4
        refine ⟨.ref a, rfl, fun F => .tup (.inr ⟨_, its, n, z, ?_, rfl, of_decide_eq_true h3, r1⟩) (r2 F)⟩
        exact congrArg Value.type (of_decide_eq_true h1)
      · cases h
    | _ => simp only [valB] at h; cases h
  | .str _, u, h => by cases u <;> simp only [valB] at h <;> cases h
  | .lst _, u, h => by cases u <;> simp only [valB] at h <;> cases h
  | .scr _, u, h => by cases u <;> simp only [valB] at h <;> cases h
  | .obj _ _, u, h => by cases u <;> simp only [valB] at h <;> cases h
theorem valLB_ok {K : PySem.W.Frag} : ∀ {ds : List D} {us : List Value}, valLB K us ds = true → ∃ vs, Vals vs us ∧ ∀ F, RpL K F vs ds
  | [], [], _ => ⟨[], .nil, fun _ => .nil⟩
  | [], _ :: _, h => by simp only [valLB] at h; cases h
  | _ :: _, [], h => by simp only [valLB] at h; cases h
  | d :: ds, u :: us, h => by
    simp only [valLB] at h
    obtain ⟨h1, h2⟩ := Bool.and_eq_true_iff.mp h
    obtain ⟨v, r1, r2⟩ := valB_ok h1
    obtain ⟨vs, q1, q2⟩ := valLB_ok h2
    exact ⟨v :: vs, .cons r1 q1, fun F => .cons (r2 F) (q2 F)⟩
end
def conB (K : PySem.W.Frag) (p : Str × D) : Bool := match PySem.W.nsIn K mainGlobals p.1 with
  | some (some u) => valB K u p.2
  | _ => false
theorem conB_ok {K : PySem.W.Frag} {h : Heap} {mg : Str → Option Value} (X : K.In h) (G : h.Ns mainGlobals mg) {x : Str} {d : D} (c : conB K (x, d) = true) : ∃ v, Gv K mg x v d := by
  unfold conB at c
  split at c
  · rename_i u z
    obtain ⟨v, r1, r2⟩ := valB_ok c
    exact ⟨v, ⟨u, PySem.W.mg_of X G z, r1⟩, r2⟩
  · cases c
/-- the head's facts with constants -/
def obsP (n : Nat) (fa : List He.Fa) (fn : List He.DefD) (cs : List (Str × D)) (g : Addr → Option Obj) : Bool × He.AlD := (cs.all fun p => conB (He.frG g (He.asD g n)) p, He.obsDG n fa fn g)
def SaysP (fa : List He.Fa) (fn : List He.DefD) (cs : List (Str × D)) (K : PySem.W.Frag) : Prop := (cs.all fun p => conB K p) = true ∧ He.SaysD fa fn K
def hookP (n : Nat) (fa : List He.Fa) (fn : List He.DefD) (cs : List (Str × D)) : PySem.W.Hook where
  α := Bool × He.AlD
  obs := fun s => obsP n fa fn cs s.heap.get?
  val := fun _ => (true, He.valD fn)
  says := fun _ h => ∃ K : PySem.W.Frag, K.In h ∧ SaysP fa fn cs K
  of := fun _ s e => ⟨He.frG s.heap.get? (He.asD s.heap.get? n), He.frG_in, congrArg Prod.fst e, congrArg Prod.snd e⟩
  keeps := fun _ _ _ ⟨K, hK, c⟩ k => ⟨K, PySem.W.Frag.In.keeps hK k, c⟩
theorem obsP_eq {n : Nat} {fa : List He.Fa} {fn : List He.DefD} {cs : List (Str × D)} {g : Addr → Option Obj} {s : Shared} (h : ∀ a, g a = s.heap.get? a) : obsP n fa fn cs g = (hookP n fa fn cs).obs s := by
  have e : g = s.heap.get? := funext h
  rw [e] <;> rfl
theorem SaysP.con {fa : List He.Fa} {fn : List He.DefD} {cs : List (Str × D)} {K : PySem.W.Frag} (c : SaysP fa fn cs K) {p : Str × D} (i : Nat) (h : cs[i]? = some p := by rfl) : conB K p = true := List.all_eq_true.mp c.1 p (List.mem_of_getElem? h)
/-- the law's own promise -/
theorem law_of {K : PySem.W.Frag} {fs : FS} {H : Hp} {a : Addr} {ns : List Int} (hS : SqL K H a (ns.map V.int)) (h : ∃ as', fs [.sh (.scr ns)] = some (.rt (.sh (.bl true)), as')) : spD K 1 fs [.ref a] H (fun v _ => v = .bl true) (fun _ _ _ => False) := by
  obtain ⟨as', h⟩ := h
  refine ⟨rfl, H, H, fun _ => 0, _, _, as', ⟨Ex.refl H, Ex.refl H, rfl, fun i d q => ?_, fun i b c q => ?_, fun i j b c b' c' a' q => ?_⟩, h, ?_⟩
  · cases i with
    | zero =>
      cases Option.some.inj q
      exact ⟨_, rfl, .scr hS⟩
    | succ i => cases q
  · cases i with
    | zero => cases Option.some.inj q
    | succ i => cases q
  · cases i with
    | zero => cases Option.some.inj q
    | succ i => cases q
  · intro v F' H' g' k' r
    cases r
    rfl
end Pd
set_option Elab.async false
set_option linter.all false
set_option maxRecDepth 100000
set_option maxHeartbeats 1000000
namespace Pd
open PySem L2
section
variable {P : Program} {w : World} {K : PySem.W.Frag} {mg : Str → Option Value} {base : Heap}
/-- the context of an exception, of any world -/
def CXe (P : Program) : CXT := fun outer H s E e s' => ∃ w, L2.CX P w outer H s E e s'
theorem fn_e {k : Nat} {f : Addr} {fd : FuncData} {ps : List Str} {sp : Sp} (h : FnOk P w K mg base (L2.CX P w) k f fd ps sp) : FnOk P w K mg base (CXe P) k f fd ps sp :=
  ⟨h.len, fun A outer s H args us vs Q E h1 h2 h3 h4 h5 => codeAny_mono (h.run A outer s H args us vs Q E h1 h2 h3 h4 h5) fun r s' hr => match r, hr with
    | .ok (.ret _), hr => hr
    | .ok .next, hr => hr.elim
    | .ok .brk, hr => hr.elim
    | .ok .cont, hr => hr.elim
    | .error _, hr => ⟨w, hr⟩⟩
theorem cxe_no {P : Program} (H : Hp) (s : Shared) (e : Value) (s' : Shared) (h : CXe P [] H s (fun _ _ _ => False) e s') : False := by
  obtain ⟨w, a, B, H', cls, d, _, _, _, _, _, _, _, h⟩ := h
  exact h
theorem fn_of {x qual : Str} {params : Arguments} {body : List Stmt} {scope : Scope} {f : Addr} {fd : FuncData} {N ps : List Str} {k n : Nat} {m : SM} (F : FunD K x qual params body scope [] [] f fd) (S : FnScope N ps scope) (hn : ps.length = n) (hN : n ≤ N.length)
    (hbody : ∀ (cdv : Value) (A : Around) (outer : List Env) (s : Shared) (H : Hp) (E : XK), Room k (A.deeper (PyProof.Rows.envOfC qual scope s.heap.objs.size f cdv)) →
      ∃ t, XSs (cxOf (L2.CX P w) P w K mg base N qual scope f cdv A outer s H E) K E body t m) : FnOk P w K mg base (L2.CX P w) (k + 1) f fd ps (spD K n (fnS N.length m)) := by
  refine F.ok S (fun vs H Q E h => h.1.trans hn.symm) fun cdv A outer s H vs Q E hr h => ?_
  obtain ⟨t, ht⟩ := hbody cdv A outer s H E hr
  exact ⟨t, ht.p, body_of ht.s h hN⟩
theorem exq_ok {h : Heap} {c : Str} (X : K.In h) (G : h.Ns mainGlobals mg) (hg : He.Fa.ok K (.glo c) = true) (he : He.Fa.ok K (.exc c) = true) : Exq K mg c := by
  obtain ⟨h1, h2, h3, h4⟩ := He.exc_ok he
  exact ⟨He.glo_ok X G hg, h1, h2, h3, h4⟩
end
end Pd
set_option Elab.async false
set_option linter.all false
set_option maxRecDepth 100000
set_option maxHeartbeats 1000000
namespace Pd
open PySem L2
section
variable {X : Cx} {K : PySem.W.Frag} {W : XK} {a b c : Expr} {es rest : List Expr} {ta tb tc te : TE} {f g h : M D} {pos : Pos}
variable {n k : Nat} {fs : FS} {x : Str} {fa : Addr} {p p2 : Pos} {t : TA} {l : M (List D)}

/-! ### three names at once -/
def sPar3 (i j k : Nat) (f : M (List D)) : SM := fun e => match f e with
  | some ([x, y, z], e2) => (match e2[i]?, e2[j]?, e2[k]? with
      | some (.ow true _), _, _ => none
      | _, some (.ow true _), _ => none
      | _, _, some (.ow true _) => none
      | _, _, _ => some (.nx (((e2.set i (.sh x)).set j (.sh y)).set k (.sh z))))
  | _ => none
theorem ss_par3 (i j k : Nat) (ha : EL K n t l) : SS K W (tPar3 i j k t) (sPar3 i j k l) := by
  intro B F H am σ e fl D kk q h
  unfold sPar3 at q
  split at q
  · rename_i x y z e2 z2
    split at q
    · cases q
    · cases q
    · cases q
    · cases Option.some.inj q
      refine ha B F H am σ e _ e2 _ kk z2 fun vs F1 H1 g1 k1 r1 hn => ?_
      match vs, r1 with
      | [u, v, w], .cons ru (.cons rv (.cons rw .nil)) =>
        exact ⟨u, v, w, rfl, h _ F1 H1 g1 (((k1.set ru).set rv).set rw)⟩
  · cases q
theorem xs_par3 (i j k : Nat) {x y z : Str} {px py pz pt pt2 : Pos} {kt k2 : Nat} (hc : X.calm = true) (hN : X.N.Nodup) (hi : X.N[i]? = some x) (hj : X.N[j]? = some y) (hk : X.N[k]? = some z) (hij : i ≠ j) (hik : i ≠ k) (hjk : j ≠ k) (hx : X.env.scope.names.lookup x = some .local) (hy : X.env.scope.names.lookup y = some .local) (hz : X.env.scope.names.lookup z = some .local) (ha : XL X K n [a, b, c] t l)
    (hw : swappedStores [.Tuple [.Name x px, .Name y py, .Name z pz] kt pt] (.Tuple [a, b, c] k2 pt2) X.env = pure (some [x, y, z]))
    (hs : swapsWithSole [.Tuple [.Name x px, .Name y py, .Name z pz] kt pt] (.Tuple [a, b, c] k2 pt2) pos.line X.env = pure false := by rfl) :
    XS X K W (.Assign [.Tuple [.Name x px, .Name y py, .Name z pz] kt pt] (.Tuple [a, b, c] k2 pt2) pos) (tPar3 i j k t) (sPar3 i j k l) := ⟨ha.k, ps_par3 hc hN hi hj hk hij hik hjk hx hy hz ha.p hw hs, ss_par3 i j k ha.s⟩

/-! ### min, max of a list of ints -/
def leastI : List Int → Option Int
  | [] => none
  | x :: xs => some (xs.foldl min x)
def mostI : List Int → Option Int
  | [] => none
  | x :: xs => some (xs.foldl max x)
theorem fold_min_mem : ∀ (xs : List Int) (x : Int), xs.foldl min x ∈ x :: xs
  | [], x => by simp
  | y :: ys, x => by
    have h := fold_min_mem ys (min x y)
    rw [List.foldl_cons]
    rcases List.mem_cons.mp h with h | h
    · rw [h]
      by_cases q : x ≤ y
      · rw [Int.min_eq_left q]; exact List.mem_cons_self
      · rw [Int.min_eq_right (by omega)]; exact List.mem_cons_of_mem _ List.mem_cons_self
    · exact List.mem_cons_of_mem _ (List.mem_cons_of_mem _ h)
theorem fold_min_le : ∀ (xs : List Int) (x : Int), ∀ y ∈ x :: xs, xs.foldl min x ≤ y
  | [], x, y, h => by simp at h; subst h; simp
  | z :: zs, x, y, h => by
    rw [List.foldl_cons]
    have h1 := fold_min_le zs (min x z) (min x z) List.mem_cons_self
    rcases List.mem_cons.mp h with h | h
    · subst h; omega
    · rcases List.mem_cons.mp h with h | h
      · subst h; omega
      · exact fold_min_le zs _ y (List.mem_cons_of_mem _ h)
theorem fold_max_mem : ∀ (xs : List Int) (x : Int), xs.foldl max x ∈ x :: xs
  | [], x => by simp
  | y :: ys, x => by
    have h := fold_max_mem ys (max x y)
    rw [List.foldl_cons]
    rcases List.mem_cons.mp h with h | h
    · rw [h]
      by_cases q : y ≤ x
      · rw [Int.max_eq_left q]; exact List.mem_cons_self
      · rw [Int.max_eq_right (by omega)]; exact List.mem_cons_of_mem _ List.mem_cons_self
    · exact List.mem_cons_of_mem _ (List.mem_cons_of_mem _ h)
theorem fold_max_le : ∀ (xs : List Int) (x : Int), ∀ y ∈ x :: xs, y ≤ xs.foldl max x
  | [], x, y, h => by simp at h; subst h; simp
  | z :: zs, x, y, h => by
    rw [List.foldl_cons]
    have h1 := fold_max_le zs (max x z) (max x z) List.mem_cons_self
    rcases List.mem_cons.mp h with h | h
    · subst h; omega
    · rcases List.mem_cons.mp h with h | h
      · subst h; omega
      · exact fold_max_le zs _ y (List.mem_cons_of_mem _ h)
def dMinL : D → Option D
  | .lst ds => (match allInts ds with
    | some ns => (leastI ns).map D.int
    | none => none)
  | _ => none
def dMaxL : D → Option D
  | .lst ds => (match allInts ds with
    | some ns => (mostI ns).map D.int
    | none => none)
  | _ => none
theorem cs_min : CalS K (rMin K) dMinL := by
  intro F H x dx d Q ex rx q h
  unfold dMinL at q
  split at q
  · split at q
    · rename_i ns z
      cases rx with
      | lst hs r =>
        rw [allInts_eq z] at r
        cases ns with
        | nil => cases q
        | cons y ys =>
          cases Option.some.inj q
          refine ⟨_, y :: ys, rfl, ?_, Nat.succ_pos _, fun m h1 h2 => ?_⟩
          · rw [← r.ints]
            exact SqL.of (ex _ _ hs)
          · have e : m = ys.foldl min y := Int.le_antisymm (h2 _ (fold_min_mem ys y)) (fold_min_le ys y m h1)
            subst e
            exact h _ (.int _)
    · cases q
  · cases q
theorem cs_max : CalS K (rMax K) dMaxL := by
  intro F H x dx d Q ex rx q h
  unfold dMaxL at q
  split at q
  · split at q
    · rename_i ns z
      cases rx with
      | lst hs r =>
        rw [allInts_eq z] at r
        cases ns with
        | nil => cases q
        | cons y ys =>
          cases Option.some.inj q
          refine ⟨_, y :: ys, rfl, ?_, Nat.succ_pos _, fun m h1 h2 => ?_⟩
          · rw [← r.ints]
            exact SqL.of (ex _ _ hs)
          · have e : m = ys.foldl max y := Int.le_antisymm (fold_max_le ys y m h1) (h2 _ (fold_max_mem ys y))
            subst e
            exact h _ (.int _)
    · cases q
  · cases q
theorem xe_minL (hc : X.calm = true) (hm : X.mg "min" = none) (ha : XE X K a ta f) (hg : Gl X "min" := by rfl) (he : starEach (a :: []) X.env = (false, eval a X.env) :: starEach [] X.env := by rfl) (hpl : (backTo pos (starEach [] X.env)).any (·.1) = false := by rfl) :
    XE X K (.Call (.Name "min" p) [a] [] pos) (tCB (rMin K) (tCons ta tNil)) (una dMinL f) := by
  have kk := ha.k
  subst kk
  exact xe_blt (cr_min hc) cs_min hm (by decide +kernel) ha hg (by decide) (by decide) he hpl
theorem xe_maxL (hc : X.calm = true) (hm : X.mg "max" = none) (ha : XE X K a ta f) (hg : Gl X "max" := by rfl) (he : starEach (a :: []) X.env = (false, eval a X.env) :: starEach [] X.env := by rfl) (hpl : (backTo pos (starEach [] X.env)).any (·.1) = false := by rfl) :
    XE X K (.Call (.Name "max" p) [a] [] pos) (tCB (rMax K) (tCons ta tNil)) (una dMaxL f) := by
  have kk := ha.k
  subst kk
  exact xe_blt (cr_max hc) cs_max hm (by decide +kernel) ha hg (by decide) (by decide) he hpl

/-! ### truth of data -/
def truD : D → Option Bool
  | .non => some false
  | .bl b => some b
  | .int i => some (i != 0)
  | .lst ds => some (!ds.isEmpty)
  | .tup ds => some (!ds.isEmpty)
  | _ => none
def asTru (f : M D) : M Bool := bnd f fun d => lft (truD d)
theorem RpL.empty {F : Hp} {vs : List V} {ds : List D} (r : RpL K F vs ds) : vs.isEmpty = ds.isEmpty := by
  cases r <;> rfl
theorem tru_of {F H : Hp} {v : V} {d : D} {k : Bool} (ex : Ex F H) (r : Rp K F v d) (h : truD d = some k) : TruV K v H k := by
  cases r with
  | non => exact (Option.some.inj h).symm
  | bl b => exact (Option.some.inj h).symm
  | int i => exact (Option.some.inj h).symm
  | str z => cases h
  | tup hs r => exact .inr (.inl ⟨_, ex_t ex hs, by rw [r.empty]; exact (Option.some.inj h).symm⟩)
  | lst hs r => exact .inl ⟨_, SqL.of (ex _ _ hs), by rw [r.empty]; exact (Option.some.inj h).symm⟩
  | scr hs => cases h
  | obj ho r => cases h
  | dic hs q r => cases h
  | dit hs q r => cases h
theorem xt_tru (ha : XE X K a ta f) (he : ∀ whole, isTrue a X.env whole = (do let v ← whole; standAt a.pos; holding [v] (truthy v)) := by intro _; rfl) : XT X K a (fun σ H Q => ta σ H fun x H' => ∃ k, TruV K x H' k ∧ Q k H') (asTru f) := by
  have kk := ha.k
  subst kk
  refine ⟨rfl, pt_truth ha.p he, ?_⟩
  intro B F H am σ e r e' Q k q h
  obtain ⟨y, e1, q1, q2⟩ := bnd_some q
  obtain ⟨q3, rfl⟩ := lft_some q2
  exact ha.s B F H am σ e y _ _ k q1 fun v F1 H1 g1 k1 r1 => ⟨r, tru_of k1.fh r1 q3, h F1 H1 g1 k1⟩

/-! ### dicts with ints and texts as keys, read -/
def valD (kvs : List (Key × D)) (k : Key) : Option D := (kvs.find? fun kv => decide (kv.1 = k)).map (·.2)
def keyD : D → Option Key
  | .int i => some (.inl i)
  | .str x => some (.inr x)
  | _ => none
theorem valD_rel {F : Hp} (k : Key) : ∀ {vs : List (Key × V)} {ds : List (Key × D)}, vs.map Prod.fst = ds.map Prod.fst → RpL K F (vs.map Prod.snd) (ds.map Prod.snd) → (valV vs k = none ∧ valD ds k = none) ∨ ∃ v d, valV vs k = some v ∧ valD ds k = some d ∧ Rp K F v d
  | [], [], _, _ => .inl ⟨rfl, rfl⟩
  | [], _ :: _, e, _ => by cases e
  | _ :: _, [], e, _ => by cases e
  | (k1, v) :: vs, (k2, d) :: ds, e, r => by
    have e1 : k1 = k2 := (List.cons.inj e).1
    have e2 := (List.cons.inj e).2
    subst e1
    cases r with
    | cons r1 r2 =>
      by_cases q : k1 = k
      · exact .inr ⟨v, d, by simp [valV, q], by simp [valD, q], r1⟩
      · have h1 : valV ((k1, v) :: vs) k = valV vs k := by simp [valV, q]
        have h2 : valD ((k1, d) :: ds) k = valD ds k := by simp [valD, q]
        rw [h1, h2]
        exact valD_rel k e2 r2
theorem key_of {F : Hp} {v : V} {d : D} {k : Key} (r : Rp K F v d) (h : keyD d = some k) : v = kV k := by
  cases r <;> cases h <;> rfl
def dInK (neg : Bool) (x y : D) : Option D := match keyD x, y with
  | some k, .dic kvs => some (.bl (if neg then !(valD kvs k).isSome else (valD kvs k).isSome))
  | _, _ => none
theorem ee_inK (ha : EE K ta f) (hb : EE K tb g) : EE K (tDIn ta tb) (bin (dInK false) f g) := by
  intro B F H am σ e d e' Q k q h
  obtain ⟨x, e1, q1, q2⟩ := bnd_some q
  obtain ⟨y, e2, q3, q4⟩ := bnd_some q2
  obtain ⟨q5, rfl⟩ := lft_some q4
  refine ha B F H am σ e x e1 _ k q1 fun v F1 H1 g1 k1 r1 => ?_
  refine hb B F1 H1 am σ e1 y _ _ k1 q3 fun u F2 H2 g2 k2 r2 => ?_
  unfold dInK at q5
  split at q5
  · rename_i key kvs hk
    cases Option.some.inj q5
    cases r2 with
    | dic hs e r =>
      refine ⟨_, _, rfl, .inl ⟨_, key, .inl (k2.fh _ _ hs), key_of r1 hk, rfl⟩, ?_⟩
      have z := h (.bl (valD kvs key).isSome) F2 H2 (g1.trans g2) k2 (.bl _)
      rcases valD_rel key e r with ⟨h1, h2⟩ | ⟨v1, d1, h1, h2, _⟩
      · rw [h1]; rw [h2] at z; exact z
      · rw [h1]; rw [h2] at z; exact z
  · cases q5
theorem ee_ninK (ha : EE K ta f) (hb : EE K tb g) : EE K (tDNotIn ta tb) (bin (dInK true) f g) := by
  intro B F H am σ e d e' Q k q h
  obtain ⟨x, e1, q1, q2⟩ := bnd_some q
  obtain ⟨y, e2, q3, q4⟩ := bnd_some q2
  obtain ⟨q5, rfl⟩ := lft_some q4
  refine ha B F H am σ e x e1 _ k q1 fun v F1 H1 g1 k1 r1 => ?_
  refine hb B F1 H1 am σ e1 y _ _ k1 q3 fun u F2 H2 g2 k2 r2 => ?_
  unfold dInK at q5
  split at q5
  · rename_i key kvs hk
    cases Option.some.inj q5
    cases r2 with
    | dic hs e r =>
      refine ⟨_, _, rfl, .inl ⟨_, key, .inl (k2.fh _ _ hs), key_of r1 hk, rfl⟩, ?_⟩
      have z := h (.bl !(valD kvs key).isSome) F2 H2 (g1.trans g2) k2 (.bl _)
      rcases valD_rel key e r with ⟨h1, h2⟩ | ⟨v1, d1, h1, h2, _⟩
      · rw [h1]; rw [h2] at z; exact z
      · rw [h1]; rw [h2] at z; exact z
  · cases q5
theorem xe_inK (hu : X.A.units + 64 < cLine) (ha : XE X K a ta f) (hb : XE X K b tb g) (hm : behindInMarks .In b = false := by rfl) : XE X K (.Compare a [.In] [b] pos) (tDIn ta tb) (bin (dInK false) f g) := ⟨ha.k, pe_cmp (pc_din (by omega) ha.p hb.p) hm, ee_inK ha.s hb.s⟩
theorem xe_ninK (hu : X.A.units + 64 < cLine) (ha : XE X K a ta f) (hb : XE X K b tb g) (hm : behindInMarks .NotIn b = false := by rfl) : XE X K (.Compare a [.NotIn] [b] pos) (tDNotIn ta tb) (bin (dInK true) f g) := ⟨ha.k, pe_cmp (pc_dnotin (by omega) ha.p hb.p) hm, ee_ninK ha.s hb.s⟩
theorem xt_inK (hu : X.A.units + 64 < cLine) (ha : XE X K a ta f) (hb : XE X K b tb g) (hm : behindInMarks .In b = false := by rfl) : XT X K (.Compare a [.In] [b] pos) (tB (tDIn ta tb)) (asB (bin (dInK false) f g)) := ⟨ha.k, pt_cmp (pc_din (by omega) ha.p hb.p) hm, et_B (ee_inK ha.s hb.s)⟩
theorem xt_ninK (hu : X.A.units + 64 < cLine) (ha : XE X K a ta f) (hb : XE X K b tb g) (hm : behindInMarks .NotIn b = false := by rfl) : XT X K (.Compare a [.NotIn] [b] pos) (tB (tDNotIn ta tb)) (asB (bin (dInK true) f g)) := ⟨ha.k, pt_cmp (pc_dnotin (by omega) ha.p hb.p) hm, et_B (ee_ninK ha.s hb.s)⟩
end
end Pd
set_option Elab.async false
set_option linter.all false
set_option maxRecDepth 100000
set_option maxHeartbeats 1000000
namespace Pd
open PySem L2
section
variable {X : Cx} {K : PySem.W.Frag} {W : XK} {a b c : Expr} {es rest : List Expr} {ta tb tc te : TE} {f g h : M D} {pos : Pos}
/-! ### dict comprehensions, keys ints or texts -/
def putKD (kvs : List (Key × D)) (k : Key) (v : D) : List (Key × D) := if (kvs.any fun kv => decide (kv.1 = k)) = true then kvs.map (fun kv => if kv.1 = k then (kv.1, v) else kv) else kvs ++ [(k, v)]
theorem map_fst_put {α : Type} (k : Key) (v : α) (kvs : List (Key × α)) : (kvs.map (fun kv => if kv.1 = k then (kv.1, v) else kv)).map Prod.fst = kvs.map Prod.fst := by
  rw [List.map_map]
  apply List.map_congr_left
  intro kv _
  show (if kv.1 = k then (kv.1, v) else kv).1 = kv.1
  split <;> rfl
theorem any_fst {α : Type} (k : Key) (kvs : List (Key × α)) : (kvs.any fun kv => decide (kv.1 = k)) = ((kvs.map Prod.fst).any fun j => decide (j = k)) := by
  rw [List.any_map] <;> rfl
theorem putMap {F : Hp} {k : Key} {v : V} {d : D} (rv : Rp K F v d) : ∀ {vs : List (Key × V)} {ds : List (Key × D)}, vs.map Prod.fst = ds.map Prod.fst → RpL K F (vs.map Prod.snd) (ds.map Prod.snd) →
    RpL K F ((vs.map (fun kv => if kv.1 = k then (kv.1, v) else kv)).map Prod.snd) ((ds.map (fun kv => if kv.1 = k then (kv.1, d) else kv)).map Prod.snd)
  | [], [], _, _ => .nil
  | [], _ :: _, e, _ => by cases e
  | _ :: _, [], e, _ => by cases e
  | (k1, v1) :: vs, (k2, d1) :: ds, e, r => by
    have e1 : k1 = k2 := (List.cons.inj e).1
    have e2 := (List.cons.inj e).2
    subst e1
    cases r with
    | cons r1 r2 =>
      have ih := putMap (k := k) rv e2 r2
      simp only [List.map_cons]
      by_cases q : k1 = k
      · rw [if_pos q, if_pos q]
        exact .cons rv ih
      · rw [if_neg q, if_neg q]
        exact .cons r1 ih
theorem put_rel {F : Hp} {k : Key} {v : V} {d : D} {vs : List (Key × V)} {ds : List (Key × D)} (rv : Rp K F v d) (e : vs.map Prod.fst = ds.map Prod.fst) (r : RpL K F (vs.map Prod.snd) (ds.map Prod.snd)) :
    (putK vs k v).map Prod.fst = (putKD ds k d).map Prod.fst ∧ RpL K F ((putK vs k v).map Prod.snd) ((putKD ds k d).map Prod.snd) := by
  unfold putK putKD
  rw [any_fst, any_fst, e]
  split
  · exact ⟨by rw [map_fst_put, map_fst_put, e], putMap rv e r⟩
  · exact ⟨by rw [List.map_append, List.map_append, e]; rfl, by rw [List.map_append, List.map_append]; exact r.append (.cons rv .nil)⟩
theorem putK_le (vs : List (Key × V)) (k : Key) (v : V) : (putK vs k v).length ≤ vs.length + 1 := by
  unfold putK
  split
  · rw [List.length_map]; omega
  · rw [List.length_append]; exact Nat.le_refl _
def dcLoop (vs : List Nat) (set : D → En → Option En) (tst : M Bool) (ky vl : M D) : List D → List (Key × D) → En → Option (List (Key × D) × En)
  | [], acc, e => some (acc, e)
  | d :: ds, acc, e => match set d e with
    | none => none
    | some e1 => (match tst e1 with
      | none => none
      | some (r, e2) => if r = true then (match ky e2 with
          | none => none
          | some (y, e3) => (match vl e3 with
            | none => none
            | some (z, e4) => (match keyD y with
              | none => none
              | some k => dcLoop vs set tst ky vl ds (putKD acc k z) (wipeE e4 vs))))
        else dcLoop vs set tst ky vl ds acc (wipeE e2 vs))
def mDic (it : M (List D)) (vs : List Nat) (set : D → En → Option En) (tst : M Bool) (ky vl : M D) : M D := bnd it fun ds => fun e1 => if ds.length ≤ 1000000 then (match dcLoop vs set tst ky vl ds [] (wipeE e1 vs) with
    | none => none
    | some (kvs, e2) => some (.dic kvs, mrg vs e1 e2))
  else none
theorem ee_dc {wi : TI} {it : M (List D)} {js vs : List Nat} {gt : TG} {set : D → En → Option En} {tt : TT} {tst : M Bool} {tk tv : TE} {ky vl : M D} (hi : EI K wi it) (hg : EGs K js gt set) (hjs : ∀ j ∈ js, j ∈ vs) (ht : ET K tt tst) (hk : EE K tk ky) (he : EE K tv vl) :
    EE K (tDc wi gt tt tk tv vs) (mDic it vs set tst ky vl) := by
  intro B F H am σ e out e' Q k q hq
  obtain ⟨ds, e1, q1, q2⟩ := bnd_some q
  split at q2
  · rename_i hlen
    split at q2
    · cases q2
    · rename_i kvs e2 zl
      cases Option.some.inj q2
      refine hi B F H am σ e ds e1 _ k q1 fun J F1 H1 g1 k1 yl => fun Dl hD => ?_
      obtain ⟨k1', fD, bD, nD⟩ := k1.newHot (o := .dK []) hD
      have hbx : ∀ o, Ex B (upd B Dl o) := fun o => Ex.new bD
      refine ⟨fun i m H => m = ds.length - i ∧ i ≤ ds.length ∧ ∃ F' e'' va da, Gr B F1 F' ∧ Ok K B F' H am (L2.wipe σ vs) e'' ∧ H Dl = some (.dK va) ∧ F' Dl = none ∧ ¬ Hot (L2.wipe σ vs) e'' Dl ∧ va.map Prod.fst = da.map Prod.fst ∧ RpL K F' (va.map Prod.snd) (da.map Prod.snd) ∧ va.length ≤ i ∧
        dcLoop vs set tst ky vl (ds.drop i) da e'' = some (kvs, e2), ⟨ds.length, by simp, Nat.zero_le _, F1, wipeE e1 vs, [], [], Gr.refl B F1, k1'.wipe vs, upd_same, fD, ((k1'.base upd_same nD).wipe vs).noHot upd_same, rfl, .nil, Nat.zero_le _, zl⟩, ?_⟩
      rintro i m H ⟨rfl, hi, F', e'', va, da, gF, kk, hDl, fD', nh, ef, rr, hva, zl'⟩
      have kb := kk.base hDl nh
      have gB : Gr (upd B Dl (.dK va)) F1 F' := ⟨gF.1, fun a o h n => by
        by_cases hd : a = Dl
        · rw [hd]
          exact fD'
        · rw [upd_ne hd] at h
          exact gF.2 a o h n⟩
      obtain ⟨ystop, ygo⟩ := yl (upd B Dl (.dK va)) F' H am (L2.wipe σ vs) e'' gB kb i
      by_cases hlt : i < ds.length
      · have hd : ds[i]? = some ds[i] := List.getElem?_eq_getElem hlt
        obtain ⟨go, yy⟩ := ygo _ hd
        refine .inr ⟨go, fun H => ds.length - (i + 1) = ds.length - (i + 1) ∧ i + 1 ≤ ds.length ∧ ∃ F' e'' va da, Gr B F1 F' ∧ Ok K B F' H am (L2.wipe σ vs) e'' ∧ H Dl = some (.dK va) ∧ F' Dl = none ∧ ¬ Hot (L2.wipe σ vs) e'' Dl ∧ va.map Prod.fst = da.map Prod.fst ∧ RpL K F' (va.map Prod.snd) (da.map Prod.snd) ∧ va.length ≤ i + 1 ∧
          dcLoop vs set tst ky vl (ds.drop (i + 1)) da e'' = some (kvs, e2), fun H' hN => ⟨ds.length - (i + 1), by omega, hN⟩, fun x H' hy => ?_⟩
        obtain ⟨F2, g2, k2, r2⟩ := yy x H' hy
        rw [drop_cons hd] at zl'
        unfold dcLoop at zl'
        cases zs : set ds[i] e'' with
        | none =>
          rw [zs] at zl'
          cases zl'
        | some ea =>
          rw [zs] at zl'
          cases zt : tst ea with
          | none =>
            simp only [zt] at zl'
            cases zl'
          | some p =>
            obtain ⟨r, eb⟩ := p
            simp only [zt] at zl'
            refine hg _ F2 H' am _ e'' x _ ea _ k2 r2 zs fun σ2 F3 H3 g3 k3 chg => ?_
            have hw : L2.wipe σ2 vs = L2.wipe σ vs := (chg vs hjs).trans (wipe_idem σ vs)
            refine ⟨hw, ht _ F3 H3 am σ2 ea r eb _ k3 zt fun F4 H4 g4 k4 => ?_⟩
            have g24 : Gr (upd B Dl (.dK va)) F' F4 := (g2.trans g3).trans g4
            cases r with
            | true =>
              rw [if_pos rfl]
              rw [if_pos rfl] at zl'
              cases zk : ky eb with
              | none =>
                rw [zk] at zl'
                cases zl'
              | some p =>
                obtain ⟨y, ec⟩ := p
                rw [zk] at zl'
                cases zv : vl ec with
                | none =>
                  simp only [zv] at zl'
                  cases zl'
                | some p =>
                  obtain ⟨z, ed⟩ := p
                  simp only [zv] at zl'
                  cases zy : keyD y with
                  | none =>
                    simp only [zy] at zl'
                    cases zl'
                  | some key =>
                    simp only [zy] at zl'
                    refine hk _ F4 H4 am σ2 eb y ec _ k4 zk fun u F5 H5 g5 k5 r5 => ?_
                    refine he _ F5 H5 am σ2 ec z ed _ k5 zv fun v F6 H6 g6 k6 r6 => ?_
                    have g26 := (g24.trans g5).trans g6
                    have f6 : F6 Dl = none := g26.2 Dl _ upd_same fD'
                    have hD6 : H6 Dl = some (.dK va) := k6.bh _ _ upd_same
                    have kw := k6.wipe vs
                    rw [hw] at kw
                    have nh' := kw.noHot (p := Dl) upd_same
                    obtain ⟨e1', e2'⟩ := put_rel (k := key) r6 ef (rr.mono g26.1)
                    exact ⟨va, key, key_of r5 zy, hD6, big_lt (by omega), rfl, hlt, F6, wipeE ed vs, putK va key v, putKD da key z, gF.trans (g26.unbase (hbx _)), (kw.unbase (hbx _)).mutOther f6 bD nh', upd_same, f6, nh', e1', e2', by have := putK_le va key v; omega, zl'⟩
            | false =>
              rw [if_neg Bool.false_ne_true]
              rw [if_neg Bool.false_ne_true] at zl'
              have f4 : F4 Dl = none := g24.2 Dl _ upd_same fD'
              have kw := k4.wipe vs
              rw [hw] at kw
              have nh' := kw.noHot (p := Dl) upd_same
              exact ⟨rfl, hlt, F4, wipeE eb vs, va, da, gF.trans (g24.unbase (hbx _)), kw.unbase (hbx _), k4.bh _ _ upd_same, f4, nh', ef, rr.mono g24.1, by omega, zl'⟩
      · have ei : i = ds.length := by omega
        subst ei
        refine .inl ⟨ystop (Nat.le_refl _), ?_⟩
        rw [List.drop_length] at zl'
        unfold dcLoop at zl'
        cases Option.some.inj zl'
        have ku := Ok.unwipe (e1 := e1) (fun i d h => by
          obtain ⟨v, h1, h2⟩ := k1.sh i d h
          exact ⟨v, h1, h2.mono gF.1⟩) vs kb
        obtain ⟨k9, g9⟩ := (ku.unbase (hbx _)).fix hDl fD' bD (ku.noHot upd_same)
        exact hq (.ref Dl) _ H ((g1.trans gF).trans g9) k9 (.dic upd_same ef (rr.mono g9.1))
  · cases q2
section
variable {kx vx tg iter : Expr} {ifs : List Expr} {scope : Scope} {own : List (Str × Nat)} {wi : TI} {it : M (List D)} {gt : TG} {set : D → En → Option En} {js : List Nat} {tt : TT} {tst : M Bool} {tk tv : TE} {km em : M D}
theorem xe_dc (hc : X.calm = true) (hN : X.N.Nodup) (hi : XI X K tg iter wi it) (ok : BlkOk X.N X.env.scope scope own)
    (hg : ∀ (s : Shared) (H : Hp) (C : Addr) (cl : List (Str × Addr)) (fp : List Addr), XGs (X.blk s H scope (compEnvC scope cl C X.env) fp) K js tg gt set) (ht : ∀ (s : Shared) (H : Hp) (C : Addr) (cl : List (Str × Addr)) (fp : List Addr), XTs (X.blk s H scope (compEnvC scope cl C X.env) fp) K ifs tt tst)
    (hk : ∀ (s : Shared) (H : Hp) (C : Addr) (cl : List (Str × Addr)) (fp : List Addr), XE (X.blk s H scope (compEnvC scope cl C X.env) fp) K kx tk km)
    (he : ∀ (s : Shared) (H : Hp) (C : Addr) (cl : List (Str × Addr)) (fp : List Addr), XE (X.blk s H scope (compEnvC scope cl C X.env) fp) K vx tv em) (hjs : ∀ j ∈ js, j ∈ own.map (·.2)) (hs : ∀ x, foldedSetIterable iter X.env x = pure x := by intro _; rfl) :
    XE X K (.DictComp kx vx [⟨tg, iter, ifs, 0⟩] scope pos) (tDc wi gt tt tk tv (own.map (·.2))) (mDic it (own.map (·.2)) set tst km em) :=
  ⟨hi.k, pe_dc hc hN hi.p ok (fun s H C cl fp => (hg s H C cl fp).p) (fun s H C cl fp => (ht s H C cl fp).p) (fun s H C cl fp => (hk s H C cl fp).p) (fun s H C cl fp => (he s H C cl fp).p) hs,
    ee_dc hi.s (hg ⟨⟨#[], {}⟩, #[], {}, 0, default⟩ (fun _ => none) 0 [] []).s hjs (ht ⟨⟨#[], {}⟩, #[], {}, 0, default⟩ (fun _ => none) 0 [] []).s (hk ⟨⟨#[], {}⟩, #[], {}, 0, default⟩ (fun _ => none) 0 [] []).s (he ⟨⟨#[], {}⟩, #[], {}, 0, default⟩ (fun _ => none) 0 [] []).s⟩
end
end
end Pd
set_option Elab.async false
set_option linter.all false
set_option maxRecDepth 100000
set_option maxHeartbeats 1000000
namespace Pd
open PySem L2
/-! ### inverses: a list that grows in a field -/
def invStep (p : Int) (L : List Int) (n : Int) : List Int := L ++ [((p - p / n) * (L[(p % n).toNat]?).getD 0) % p]
def invAt (p : Int) : Nat → List Int
  | 0 => [0, 1]
  | k + 1 => invStep p (invAt p k) (2 + (k : Int))
theorem invAt_len (p : Int) : ∀ k, (invAt p k).length = k + 2
  | 0 => rfl
  | k + 1 => by
    show (invStep p (invAt p k) _).length = _
    unfold invStep
    rw [List.length_append, invAt_len p k] <;> rfl
def invs (p : Int) : List Int := invAt p (p - 2).toNat
def sInv (c f : Str) : SM := fun (e : En) => match hotI e 0 c, e[0]?, e[1]? with
  | some fs, some (Sl.ow b _), some (Sl.sh (.int p)) => if fs.length < 900 ∧ 2 ≤ p ∧ p < 1000 ∧ 3 < e.length then some (.nx ((e.set 0 (.ow b (.ins c (putD f (.lst ((invs p).map .int)) fs)))).set 3 .un)) else none
  | _, _, _ => none
section
variable {X : Cx} {K : PySem.W.Frag} {W : XK} {B F H : Hp} {am : Nat → Addr} {σ : L2.St} {e : En}
def tInvE (K : PySem.W.Frag) (f : Str) : TE := tOp rModA (tOp rMulA (tOp rSubI (tVar 1) (tOp rFdivA (tVar 1) (tVar 3))) (tOp (rIx K) (tFld K (tVar 0) f) (tOp rModA (tVar 1) (tVar 3)))) (tVar 1)
def tInv (K : PySem.W.Frag) (f : Str) : TS := tSeq (sFld K (tVar 0) (tLst (tCons (tC (.int 0)) (tCons (tC (.int 1)) tNil))) f) (tFor (iRng2 (tCons (tC (.int 2)) (tCons (tVar 1) tNil))) (gName 3) (tDrop (tBM K "list" rAppend (tFld K (tVar 0) f) (tCons (tInvE K f) tNil))))
theorem lookup_put (f : Str) (v : V) : ∀ vs : List (Str × V), (putF f v vs).lookup f = some v
  | [] => List.lookup_cons_self
  | (g, x) :: r => by
    unfold putF
    by_cases z : g = f
    · rw [if_pos z]
      subst z
      exact List.lookup_cons_self
    · rw [if_neg z]
      have qb : (f == g) = false := by simpa using fun w => z w.symm
      rw [List.lookup_cons, qb]
      exact lookup_put f v r
theorem atI_nat {L : List Int} {i : Int} {z : Int} (h0 : 0 ≤ i) (h : L[i.toNat]? = some z) : atI (L.map V.int) i = some (V.int z) := by
  rw [atI_map]
  have hl : i.toNat < L.length := (List.getElem?_eq_some_iff.mp h).1
  have e1 : i < (L.length : Int) := by omega
  unfold atI ixN
  have e2 := (List.getElem?_eq_some_iff.mp h).2
  simp [h0, e1, e2]
theorem ss_inv {c f : Str} (hc : Cls K (He.ga K c)) (hn : NoAttr K (He.ga K c) f) : SS K W (tInv K f) (sInv c f) := by
  intro B F H am σ e fl D k q h
  unfold sInv at q
  split at q
  · rename_i fs b hh p z1 z2 z3
    split at q
    · rename_i hlt
      obtain ⟨hf, hp2, hp3, hel⟩ := hlt
      cases Option.some.inj q
      obtain ⟨b', a0, dx, vs, x0, x1, x2, x3, x4, x5⟩ := k.hotI z1
      rw [x0] at z2
      cases Option.some.inj z2
      obtain ⟨v1, s1, r1⟩ := k.sh 1 _ z3
      cases r1
      have hsl : 3 < σ.length := by rw [k.len]; exact hel
      refine ⟨by show (2 : Nat) ≤ sizeLine; exact Nat.le_of_lt (big_lt (by omega)), fun qa hq => ⟨_, x1, a0, _, dx, vs, rfl, ?_, hc, hn, by rw [x5.length]; omega, ?_⟩⟩
      · rw [upd_ne (ne_of_none x4 hq)]
        exact x4
      have na : a0 ≠ qa := ne_of_none x4 hq
      let HH : List Int → Hp := fun L => upd (upd H qa (.lst (L.map V.int))) a0 (.ins (He.ga K c) dx (putF f (.ref qa) vs))
      have hq1 : ∀ L, HH L qa = some (.lst (L.map V.int)) := fun L => by
        show upd (upd H qa _) a0 _ qa = _
        rw [upd_ne na.symm, upd_same]
      have ha1 : ∀ L, HH L a0 = some (.ins (He.ga K c) dx (putF f (.ref qa) vs)) := fun L => upd_same
      have hup : ∀ L L', upd (HH L) qa (.lst (L'.map V.int)) = HH L' := fun L L' => by
        funext x
        show upd (upd (upd H qa _) a0 _) qa _ x = upd (upd H qa _) a0 _ x
        by_cases e1 : x = qa
        · subst e1
          rw [upd_same, upd_ne na.symm, upd_same]
        · rw [upd_ne e1]
          by_cases e2 : x = a0
          · subst e2
            rw [upd_same, upd_same]
          · rw [upd_ne e2, upd_ne e2, upd_ne e1, upd_ne e1]
      refine ⟨_, s1, 2, p, rfl, ⟨by decide, by decide, by omega, by omega⟩, ?_⟩
      refine ⟨fun i m σ' H' => m = (p - 2).toNat - i ∧ i ≤ (p - 2).toNat ∧ σ'.length = σ.length ∧ (∀ j : Nat, j ≠ 3 → σ'[j]? = σ[j]?) ∧ H' = HH (invAt p i), ⟨(p - 2).toNat, by simp, Nat.zero_le _, rfl, fun _ _ => rfl, rfl⟩, ?_⟩
      rintro i m σ' H' ⟨rfl, hi, hl, hs, rfl⟩
      by_cases hlt : i < (p - 2).toNat
      · refine .inr ⟨hlt, fun σ2 H2 => σ2.length = σ.length ∧ (∀ j : Nat, j ≠ 3 → σ2[j]? = σ[j]?) ∧ H2 = HH (invAt p (i + 1)), fun σ2 H2 hN => ⟨(p - 2).toNat - (i + 1), by omega, rfl, hlt, hN⟩, ?_⟩
        rintro x H' ⟨rfl, rfl⟩
        let n : Int := 2 + (i : Int)
        have hn0 : 0 < n := by show 0 < 2 + (i : Int); omega
        let σ2 : L2.St := σ'.set 3 (some (.int n))
        have t0 : σ2[0]? = some (some (V.ref a0)) := by
          show (σ'.set 3 _)[0]? = _
          rw [List.getElem?_set_ne (by decide), hs 0 (by decide), x1]
        have t1 : σ2[1]? = some (some (V.int p)) := by
          show (σ'.set 3 _)[1]? = _
          rw [List.getElem?_set_ne (by decide), hs 1 (by decide), s1]
        have t3 : σ2[3]? = some (some (V.int n)) := by
          show (σ'.set 3 _)[3]? = _
          rw [List.getElem?_set_self (by rw [hl]; exact hsl)]
        have hmod0 : 0 ≤ p % n := Int.emod_nonneg _ (by omega)
        have hmodn : p % n < n := Int.emod_lt_of_pos _ hn0
        have hlen := invAt_len p i
        have hix : (p % n).toNat < (invAt p i).length := by
          rw [hlen]
          have : n = 2 + (i : Int) := rfl
          omega
        have hget : (invAt p i)[(p % n).toNat]? = some ((invAt p i)[(p % n).toNat]) := List.getElem?_eq_getElem hix
        have lk : (putF f (V.ref qa) vs).lookup f = some (V.ref qa) := lookup_put f _ vs
        have b1 : n.natAbs.log2 < 9000 := Nat.lt_of_le_of_lt (Nat.log2_le_self _) (by show (2 + (i : Int)).natAbs < 9000; omega)
        have dq : p / n ≤ p := Int.ediv_le_self _ (by omega)
        have dq0 : 0 ≤ p / n := Int.ediv_nonneg (by omega) (by omega)
        refine ⟨_, t0, a0, _, dx, _, _, rfl, ha1 _, hc, hn, lk, .inl ⟨rfl, _, SqL.of (hq1 _)⟩, ?_⟩
        refine ⟨_, t1, _, t1, _, t3, .inl ⟨_, _, rfl, rfl, ⟨hn0, b1⟩, _, _, rfl, rfl, ?_⟩⟩
        refine ⟨_, t0, a0, _, dx, _, _, rfl, ha1 _, hc, hn, lk, _, t1, _, t3, .inl ⟨_, _, rfl, rfl, hn0, ?_⟩⟩
        refine .inl ⟨_, _, _, _, rfl, rfl, SqL.of (hq1 _), atI_nat hmod0 hget, ?_⟩
        refine .inl ⟨_, _, rfl, rfl, .inl ⟨by omega, by omega⟩, _, t1, .inl ⟨_, _, rfl, rfl, by omega, ?_⟩⟩
        refine ⟨qa, _, _, rfl, rfl, hq1 _, by rw [List.length_map, hlen]; exact big_lt (by omega), ?_⟩
        refine ⟨by rw [List.length_set]; exact hl, fun j hj => by rw [List.getElem?_set_ne (Ne.symm hj)]; exact hs j hj, ?_⟩
        rw [← hup (invAt p i) (invAt p (i + 1))]
        show upd _ qa (.lst _) = upd _ qa (.lst _)
        congr 2
        show _ = (invStep p (invAt p i) n).map V.int
        unfold invStep
        rw [List.map_append, hget] <;> rfl
      · have ei : i = (p - 2).toNat := by omega
        subst ei
        refine .inl ⟨Nat.le_refl _, ?_⟩
        obtain ⟨k1, g1⟩ := k.new (o := .lst ((invs p).map V.int)) hq
        have k2 := k1.write (o := .ins (He.ga K c) dx (putF f (.ref qa) vs)) (h' := .ins c (putD f (.lst ((invs p).map .int)) fs)) x0 x1 (.ins (rpf_put (x := f) (.lst upd_same (RpL.ofInts (invs p))) (x5.mono g1.1)))
        exact h σ' _ _ g1 (k2.forget 3 hl hs)
    · cases q
  · cases q
/-- the two statements: the list stored, the loop -/
theorem xss_inv {c f : Str} {st1 st2 : Stmt} (hk : X.K = K) (hc : Cls X.K (He.ga X.K c)) (hn : NoAttr X.K (He.ga X.K c) f) (h1 : PS X st1 (sFld X.K (tVar 0) (tLst (tCons (tC (.int 0)) (tCons (tC (.int 1)) tNil))) f)) (h2 : PS X st2 (tFor (iRng2 (tCons (tC (.int 2)) (tCons (tVar 1) tNil))) (gName 3) (tDrop (tBM X.K "list" rAppend (tFld X.K (tVar 0) f) (tCons (tInvE X.K f) tNil))))) : XSs X K W [st1, st2] (tInv K f) (sInv c f) := by
  subst hk
  exact ⟨rfl, pss_cons h1 (pss_one h2), ss_inv hc hn⟩
end
/-! ### for reading what a call hands back -/
theorem back_sh (d : D) (e : En) : back (some (.rt (.sh d), e)) = some d := rfl
theorem back_nw (ds : List D) (e : En) : back (some (.rt (.nw ds), e)) = some (.lst ds) := rfl
theorem backN_nw (ds : List D) (e : En) : backN (some (.rt (.nw ds), e)) = some ds := rfl
theorem backI_mk (c : Str) (fs : List (Str × D)) (e : En) : backI c (some (.rt (.sh .non), .ow true (.ins c fs) :: e)) = some (.obj c fs) := by
  unfold backI
  simp
end Pd
set_option Elab.async false
set_option linter.all false
set_option maxRecDepth 100000
set_option maxHeartbeats 1000000
namespace Pd
open PySem L2
section
variable {X : Cx} {K : PySem.W.Frag} {W : XK} {a b c : Expr} {es rest : List Expr} {ta tb tc te : TE} {f g h : M D} {pos : Pos}
/-! ### comprehensions with two walks -/
def lc2Loop (vs vs1 : List Nat) (set : D → En → Option En) (tst : M Bool) (it1 : M (List D)) (set1 : D → En → Option En) (tst1 : M Bool) (elt : M D) : List D → En → Option (List D × En)
  | [], e => some ([], e)
  | d :: ds, e => match set d e with
    | none => none
    | some e1 => (match tst e1 with
      | none => none
      | some (r, e2) => if r = true then (match it1 e2 with
          | none => none
          | some (ds1, e3) => (match lcLoop vs1 set1 tst1 elt ds1 (wipeE e3 vs1) with
            | none => none
            | some (ys, e4) => (match lc2Loop vs vs1 set tst it1 set1 tst1 elt ds (wipeE e4 vs) with
              | none => none
              | some (zs, e5) => some (ys ++ zs, e5))))
        else lc2Loop vs vs1 set tst it1 set1 tst1 elt ds (wipeE e2 vs))
def lc2S (it : M (List D)) (vs vs1 : List Nat) (set : D → En → Option En) (tst : M Bool) (it1 : M (List D)) (set1 : D → En → Option En) (tst1 : M Bool) (elt : M D) : M (List D) := bnd it fun ds => fun e1 => match lc2Loop vs vs1 set tst it1 set1 tst1 elt ds (wipeE e1 vs) with
  | none => none
  | some (ys, e2) => if ys.length ≤ 1000000 then some (ys, mrg vs e1 e2) else none
theorem wipe_sub {σ : L2.St} {vs vs1 : List Nat} (h : ∀ i ∈ vs1, i ∈ vs) : L2.wipe (L2.wipe σ vs1) vs = L2.wipe σ vs := by
  apply List.ext_getElem?
  intro j
  rw [wipe_at, wipe_at, wipe_at]
  by_cases q : j ∈ vs
  · rw [if_pos q, if_pos q]
    by_cases q1 : j ∈ vs1
    · rw [if_pos q1]
      cases σ[j]? <;> rfl
    · rw [if_neg q1]
  · rw [if_neg q, if_neg q, if_neg fun z => q (h j z)]
theorem ef_lc2 {wi wi1 : TI} {it it1 : M (List D)} {js js1 vs vs1 : List Nat} {gt gt1 : TG} {set set1 : D → En → Option En} {tt tt1 : TT} {tst tst1 : M Bool} {elt : M D} (hv : ∀ i ∈ vs1, i ∈ vs) (hi : EI K wi it) (hg : EGs K js gt set) (hjs : ∀ j ∈ js, j ∈ vs) (ht : ET K tt tst) (hi1 : EI K wi1 it1) (hg1 : EGs K js1 gt1 set1) (hjs1 : ∀ j ∈ js1, j ∈ vs1) (ht1 : ET K tt1 tst1) (he : EE K te elt) :
    EF K (tLc2 wi gt tt wi1 gt1 tt1 te vs vs1) (lc2S it vs vs1 set tst it1 set1 tst1 elt) := by
  intro B F H am σ e out e' Q k q hq
  obtain ⟨ds, e1, q1, q2⟩ := bnd_some q
  split at q2
  · cases q2
  · rename_i ys e2 zl
    split at q2
    · rename_i hlen
      cases Option.some.inj q2
      refine hi B F H am σ e ds e1 _ k q1 fun J F1 H1 g1 k1 yl => fun Dl hD => ?_
      obtain ⟨k1', fD, bD, nD⟩ := k1.newHot (o := .lst []) hD
      have hbx : ∀ o, Ex B (upd B Dl o) := fun o => Ex.new bD
      have grB : ∀ {F2 : Hp} (va : List V), Gr B F1 F2 → F2 Dl = none → Gr (upd B Dl (.lst va)) F1 F2 := fun va gF fD' => ⟨gF.1, fun a o h n => by
        by_cases hd : a = Dl
        · rw [hd]
          exact fD'
        · rw [upd_ne hd] at h
          exact gF.2 a o h n⟩
      refine ⟨fun i m H => m = ds.length - i ∧ i ≤ ds.length ∧ ∃ F' e'' va da yr, Gr B F1 F' ∧ Ok K B F' H am (L2.wipe σ vs) e'' ∧ H Dl = some (.lst va) ∧ F' Dl = none ∧ ¬ Hot (L2.wipe σ vs) e'' Dl ∧ RpL K F' va da ∧
        lc2Loop vs vs1 set tst it1 set1 tst1 elt (ds.drop i) e'' = some (yr, e2) ∧ da ++ yr = out, ⟨ds.length, by simp, Nat.zero_le _, F1, wipeE e1 vs, [], [], out, Gr.refl B F1, k1'.wipe vs, upd_same, fD, ((k1'.base upd_same nD).wipe vs).noHot upd_same, .nil, zl, rfl⟩, ?_⟩
      rintro i m H ⟨rfl, hi, F', e'', va, da, yr, gF, kk, hDl, fD', nh, rr, zl', happ⟩
      have kb := kk.base hDl nh
      obtain ⟨ystop, ygo⟩ := yl (upd B Dl (.lst va)) F' H am (L2.wipe σ vs) e'' (grB va gF fD') kb i
      by_cases hlt : i < ds.length
      · have hd : ds[i]? = some ds[i] := List.getElem?_eq_getElem hlt
        obtain ⟨go, yy⟩ := ygo _ hd
        refine .inr ⟨go, fun H => ds.length - (i + 1) = ds.length - (i + 1) ∧ i + 1 ≤ ds.length ∧ ∃ F' e'' va da yr, Gr B F1 F' ∧ Ok K B F' H am (L2.wipe σ vs) e'' ∧ H Dl = some (.lst va) ∧ F' Dl = none ∧ ¬ Hot (L2.wipe σ vs) e'' Dl ∧ RpL K F' va da ∧
          lc2Loop vs vs1 set tst it1 set1 tst1 elt (ds.drop (i + 1)) e'' = some (yr, e2) ∧ da ++ yr = out, fun H' hN => ⟨ds.length - (i + 1), by omega, hN⟩, fun x H' hy => ?_⟩
        obtain ⟨F2, g2, k2, r2⟩ := yy x H' hy
        rw [drop_cons hd] at zl'
        unfold lc2Loop at zl'
        cases zs : set ds[i] e'' with
        | none =>
          rw [zs] at zl'
          cases zl'
        | some ea =>
          rw [zs] at zl'
          cases zt : tst ea with
          | none =>
            simp only [zt] at zl'
            cases zl'
          | some p =>
            obtain ⟨r, eb⟩ := p
            simp only [zt] at zl'
            refine hg _ F2 H' am _ e'' x _ ea _ k2 r2 zs fun σ2 F3 H3 g3 k3 chg => ?_
            have hw : L2.wipe σ2 vs = L2.wipe σ vs := (chg vs hjs).trans (wipe_idem σ vs)
            refine ⟨hw, ht _ F3 H3 am σ2 ea r eb _ k3 zt fun F4 H4 g4 k4 => ?_⟩
            have g24 : Gr (upd B Dl (.lst va)) F' F4 := (g2.trans g3).trans g4
            have f4 : F4 Dl = none := g24.2 Dl _ upd_same fD'
            cases r with
            | true =>
              rw [if_pos rfl]
              rw [if_pos rfl] at zl'
              cases zi : it1 eb with
              | none =>
                rw [zi] at zl'
                cases zl'
              | some p =>
                obtain ⟨ds1, ec⟩ := p
                rw [zi] at zl'
                cases zn : lcLoop vs1 set1 tst1 elt ds1 (wipeE ec vs1) with
                | none =>
                  simp only [zn] at zl'
                  cases zl'
                | some p =>
                  obtain ⟨ys1, e4⟩ := p
                  simp only [zn] at zl'
                  cases zr : lc2Loop vs vs1 set tst it1 set1 tst1 elt (ds.drop (i + 1)) (wipeE e4 vs) with
                  | none =>
                    simp only [zr] at zl'
                    cases zl'
                  | some p =>
                    obtain ⟨zs1, e5⟩ := p
                    simp only [zr] at zl'
                    cases Option.some.inj zl'
                    refine hi1 _ F4 H4 am σ2 eb ds1 ec _ k4 zi fun J1 F5 H5 g5 k5 yl1 => ?_
                    have gF5 : Gr B F1 F5 := gF.trans ((g24.trans g5).unbase (hbx _))
                    have f5 : F5 Dl = none := g5.2 Dl _ upd_same f4
                    have hD5 : H5 Dl = some (.lst va) := k5.bh _ _ upd_same
                    refine ⟨fun j n H => n = ds1.length - j ∧ j ≤ ds1.length ∧ ∃ F' e'' va da yr, Gr B F1 F' ∧ Ok K B F' H am (L2.wipe σ2 vs1) e'' ∧ H Dl = some (.lst va) ∧ F' Dl = none ∧ ¬ Hot (L2.wipe σ2 vs1) e'' Dl ∧ Gr B F5 F' ∧ RpL K F' va da ∧
                      lcLoop vs1 set1 tst1 elt (ds1.drop j) e'' = some (yr, e4) ∧ da ++ (yr ++ zs1) = out, ⟨ds1.length, by simp, Nat.zero_le _, F5, wipeE ec vs1, va, da, ys1, gF5, (k5.wipe vs1).unbase (hbx _), hD5, f5, (k5.wipe vs1).noHot upd_same, Gr.refl B F5, rr.mono (g24.trans g5).1, zn, happ⟩, ?_⟩
                    rintro j n H ⟨rfl, hj, F', e'', va, da, yr, gF', kk', hDl', fD'', nh', gF6, rr', zn', happ'⟩
                    have kb' := kk'.base hDl' nh'
                    have gB6 : Gr (upd B Dl (.lst va)) F5 F' := ⟨gF6.1, fun a o h n => by
                      by_cases hd : a = Dl
                      · rw [hd]
                        exact fD''
                      · rw [upd_ne hd] at h
                        exact gF6.2 a o h n⟩
                    obtain ⟨ystop1, ygo1⟩ := yl1 (upd B Dl (.lst va)) F' H am (L2.wipe σ2 vs1) e'' gB6 kb' j
                    by_cases hlt1 : j < ds1.length
                    · have hd1 : ds1[j]? = some ds1[j] := List.getElem?_eq_getElem hlt1
                      obtain ⟨go1, yy1⟩ := ygo1 _ hd1
                      refine .inr ⟨go1, fun H => ds1.length - (j + 1) = ds1.length - (j + 1) ∧ j + 1 ≤ ds1.length ∧ ∃ F' e'' va da yr, Gr B F1 F' ∧ Ok K B F' H am (L2.wipe σ2 vs1) e'' ∧ H Dl = some (.lst va) ∧ F' Dl = none ∧ ¬ Hot (L2.wipe σ2 vs1) e'' Dl ∧ Gr B F5 F' ∧ RpL K F' va da ∧
                        lcLoop vs1 set1 tst1 elt (ds1.drop (j + 1)) e'' = some (yr, e4) ∧ da ++ (yr ++ zs1) = out, fun H' hN => ⟨ds1.length - (j + 1), by omega, hN⟩, fun x H' hy => ?_⟩
                      obtain ⟨F7, g7, k7, r7⟩ := yy1 x H' hy
                      rw [drop_cons hd1] at zn'
                      unfold lcLoop at zn'
                      cases zs' : set1 ds1[j] e'' with
                      | none =>
                        rw [zs'] at zn'
                        cases zn'
                      | some ea' =>
                        rw [zs'] at zn'
                        cases zt' : tst1 ea' with
                        | none =>
                          simp only [zt'] at zn'
                          cases zn'
                        | some p =>
                          obtain ⟨r, eb'⟩ := p
                          simp only [zt'] at zn'
                          refine hg1 _ F7 H' am _ e'' x _ ea' _ k7 r7 zs' fun σ3 F8 H8 g8 k8 chg1 => ?_
                          have hw1 : L2.wipe σ3 vs1 = L2.wipe σ2 vs1 := (chg1 vs1 hjs1).trans (wipe_idem σ2 vs1)
                          refine ⟨hw1, ht1 _ F8 H8 am σ3 ea' r eb' _ k8 zt' fun F9 H9 g9 k9 => ?_⟩
                          have g29 : Gr (upd B Dl (.lst va)) F' F9 := (g7.trans g8).trans g9
                          cases r with
                          | true =>
                            rw [if_pos rfl]
                            rw [if_pos rfl] at zn'
                            cases ze : elt eb' with
                            | none =>
                              rw [ze] at zn'
                              cases zn'
                            | some p =>
                              obtain ⟨y, ec'⟩ := p
                              rw [ze] at zn'
                              refine he _ F9 H9 am σ3 eb' y ec' _ k9 ze fun v Fa Ha ga ka ra => ?_
                              have g2a := g29.trans ga
                              have fa : Fa Dl = none := g2a.2 Dl _ upd_same fD''
                              have hDa : Ha Dl = some (.lst va) := ka.bh _ _ upd_same
                              cases zr' : lcLoop vs1 set1 tst1 elt (ds1.drop (j + 1)) (wipeE ec' vs1) with
                              | none =>
                                simp only [zr'] at zn'
                                cases zn'
                              | some p =>
                                obtain ⟨ys', e4'⟩ := p
                                simp only [zr'] at zn'
                                cases Option.some.inj zn'
                                have kw := ka.wipe vs1
                                rw [hw1] at kw
                                have nh'' := kw.noHot (p := Dl) upd_same
                                have hla : va.length < 1000000 := by
                                  have h1 := congrArg List.length happ'
                                  rw [List.length_append, List.length_append, List.length_cons, ← rr'.length] at h1
                                  omega
                                refine ⟨va, hDa, big_lt hla, rfl, hlt1, Fa, wipeE ec' vs1, va ++ [v], da ++ [y], ys', gF'.trans (g2a.unbase (hbx _)), (kw.unbase (hbx _)).mutOther fa bD nh'', upd_same, fa, nh'', gF6.trans (g2a.unbase (hbx _)), (rr'.mono g2a.1).append (.cons ra .nil), zr', ?_⟩
                                rw [List.append_assoc]
                                exact happ'
                          | false =>
                            rw [if_neg Bool.false_ne_true]
                            rw [if_neg Bool.false_ne_true] at zn'
                            have f9 : F9 Dl = none := g29.2 Dl _ upd_same fD''
                            have kw := k9.wipe vs1
                            rw [hw1] at kw
                            have nh'' := kw.noHot (p := Dl) upd_same
                            exact ⟨rfl, hlt1, F9, wipeE eb' vs1, va, da, yr, gF'.trans (g29.unbase (hbx _)), kw.unbase (hbx _), k9.bh _ _ upd_same, f9, nh'', gF6.trans (g29.unbase (hbx _)), rr'.mono g29.1, zn', happ'⟩
                    · have ej : j = ds1.length := by omega
                      subst ej
                      rw [List.drop_length] at zn'
                      unfold lcLoop at zn'
                      cases Option.some.inj zn'
                      rw [List.nil_append] at happ'
                      have kw := kb'.wipe vs
                      rw [wipe_sub hv, hw] at kw
                      exact .inl ⟨ystop1 (Nat.le_refl _), rfl, hlt, F', wipeE e4 vs, va, da, zs1, gF', kw.unbase (hbx _), hDl', fD'', kw.noHot upd_same, rr', zr, happ'⟩
            | false =>
              rw [if_neg Bool.false_ne_true]
              rw [if_neg Bool.false_ne_true] at zl'
              have kw := k4.wipe vs
              rw [hw] at kw
              have nh' := kw.noHot (p := Dl) upd_same
              exact ⟨rfl, hlt, F4, wipeE eb vs, va, da, yr, gF.trans (g24.unbase (hbx _)), kw.unbase (hbx _), k4.bh _ _ upd_same, f4, nh', rr.mono g24.1, zl', happ⟩
      · have ei : i = ds.length := by omega
        subst ei
        refine .inl ⟨ystop (Nat.le_refl _), ?_⟩
        rw [List.drop_length] at zl'
        unfold lc2Loop at zl'
        cases Option.some.inj zl'
        rw [List.append_nil] at happ
        subst happ
        have ku := Ok.unwipe (e1 := e1) (fun i d h => by
          obtain ⟨v, h1, h2⟩ := k1.sh i d h
          exact ⟨v, h1, h2.mono gF.1⟩) vs kb
        exact hq Dl va F' H (g1.trans gF) (ku.unbase (hbx _)) hDl fD' bD (ku.noHot upd_same) rr
    · cases q2
section
variable {elt tg iter tg1 iter1 : Expr} {ifs ifs1 : List Expr} {scope : Scope} {own : List (Str × Nat)} {vs1 : List Nat} {wi wi1 : TI} {it it1 : M (List D)} {gt gt1 : TG} {set set1 : D → En → Option En} {js js1 : List Nat} {tt tt1 : TT} {tst tst1 : M Bool} {em : M D}
theorem xf_lc2 (hc : X.calm = true) (hN : X.N.Nodup) (hi : XI X K tg iter wi it) (ok : BlkOk X.N X.env.scope scope own) (hv : ∀ i ∈ vs1, i ∈ own.map (·.2))
    (hg : ∀ (s : Shared) (H : Hp) (C : Addr) (cl : List (Str × Addr)) (fp : List Addr), XGs (X.blk s H scope (compEnvC scope cl C X.env) fp) K js tg gt set) (ht : ∀ (s : Shared) (H : Hp) (C : Addr) (cl : List (Str × Addr)) (fp : List Addr), XTs (X.blk s H scope (compEnvC scope cl C X.env) fp) K ifs tt tst)
    (hi1 : ∀ (s : Shared) (H : Hp) (C : Addr) (cl : List (Str × Addr)) (fp : List Addr), XI (X.blk s H scope (compEnvC scope cl C X.env) fp) K tg1 iter1 wi1 it1)
    (hg1 : ∀ (s : Shared) (H : Hp) (C : Addr) (cl : List (Str × Addr)) (fp : List Addr), XGs (X.blk s H scope (compEnvC scope cl C X.env) fp) K js1 tg1 gt1 set1) (ht1 : ∀ (s : Shared) (H : Hp) (C : Addr) (cl : List (Str × Addr)) (fp : List Addr), XTs (X.blk s H scope (compEnvC scope cl C X.env) fp) K ifs1 tt1 tst1)
    (he : ∀ (s : Shared) (H : Hp) (C : Addr) (cl : List (Str × Addr)) (fp : List Addr), XE (X.blk s H scope (compEnvC scope cl C X.env) fp) K elt te em) (hjs : ∀ j ∈ js, j ∈ own.map (·.2)) (hjs1 : ∀ j ∈ js1, j ∈ vs1) (hs : ∀ x, foldedSetIterable iter X.env x = pure x := by intro _; rfl) (hs1 : ∀ (env : Env) x, foldedSetIterable iter1 env x = pure x := by intro _ _; rfl) :
    XF X K (.ListComp elt [⟨tg, iter, ifs, 0⟩, ⟨tg1, iter1, ifs1, 0⟩] scope pos) (tLc2 wi gt tt wi1 gt1 tt1 te (own.map (·.2)) vs1) (lc2S it (own.map (·.2)) vs1 set tst it1 set1 tst1 em) :=
  ⟨hi.k, pe_lc2 hc hN hi.p ok hv (fun s H C cl fp => (hg s H C cl fp).p) (fun s H C cl fp => (ht s H C cl fp).p) (fun s H C cl fp => (hi1 s H C cl fp).p) (fun s H C cl fp => (hg1 s H C cl fp).p) (fun s H C cl fp => (ht1 s H C cl fp).p) (fun s H C cl fp => (he s H C cl fp).p) hs hs1,
    ef_lc2 hv hi.s (hg ⟨⟨#[], {}⟩, #[], {}, 0, default⟩ (fun _ => none) 0 [] []).s hjs (ht ⟨⟨#[], {}⟩, #[], {}, 0, default⟩ (fun _ => none) 0 [] []).s (hi1 ⟨⟨#[], {}⟩, #[], {}, 0, default⟩ (fun _ => none) 0 [] []).s (hg1 ⟨⟨#[], {}⟩, #[], {}, 0, default⟩ (fun _ => none) 0 [] []).s hjs1 (ht1 ⟨⟨#[], {}⟩, #[], {}, 0, default⟩ (fun _ => none) 0 [] []).s (he ⟨⟨#[], {}⟩, #[], {}, 0, default⟩ (fun _ => none) 0 [] []).s⟩
end
end
end Pd
set_option Elab.async false
set_option linter.all false
set_option maxRecDepth 100000
set_option maxHeartbeats 1000000
namespace Pd
open PySem L2
/-! ### facts about errors, for the head -/
inductive Xf where
  | isx (c : Str) | exm (c d : Str) (b : Bool) | kit (c d : Str) (b : Bool) | kitT (c : Str) (T : String) (b : Bool)
def xcB (K : PySem.W.Frag) (D : Addr) : Bool :=
  He.eqO (PySem.W.findIn K (.ref D) "__getattribute__") (some (some (.builtin "BaseException.__getattribute__"))) && (He.eqO (PySem.W.findIn K (.ref D) "__getattr__") (some none) &&
  (decide (PySem.W.subIn K (.ref D) (.type "BaseException") = some true) && (PySem.W.hasDictIn K D && (He.eqO (PySem.W.findIn K (.ref D) "__class__") (some (some (.builtin "object.__class__"))) &&
  (He.eqO (PySem.W.specialIn K (.builtin "object.__class__") "__get__") (some (some (.builtin "getset_descriptor.__get__"))) && (decide (PySem.W.takesIn K (.builtin "object.__class__") = some true) && decide (PySem.W.mroIn K D (.type "object") = some true)))))))
def xfB (K : PySem.W.Frag) : Xf → Bool
  | .isx c => xcB K (He.ga K c)
  | .exm c d b => decide (PySem.W.exmOne K (.ref (He.ga K c)) (.ref (He.ga K d)) = some b)
  | .kit c d b => decide (PySem.W.kitOne K (.ref (He.ga K c)) (.ref (He.ga K d)) = some b)
  | .kitT c T b => decide (PySem.W.kitOne K (.ref (He.ga K c)) (.type T) = some b)
theorem xcB_ok {K : PySem.W.Frag} {D : Addr} (h : xcB K D = true) : ExcC K D := by
  unfold xcB at h
  simp only [Bool.and_eq_true, decide_eq_true_eq] at h
  obtain ⟨h1, h2, h3, h4, h5, h6, h7, h8⟩ := h
  exact ⟨He.eqO_ok h1, He.eqO_ok h2, h3, h4, He.eqO_ok h5, He.eqO_ok h6, h7, h8⟩
def obsQ (n : Nat) (fa : List He.Fa) (fn : List He.DefD) (cs : List (Str × D)) (xs : List Xf) (g : Addr → Option Obj) : Bool × (Bool × He.AlD) := (xs.all fun x => xfB (He.frG g (He.asD g n)) x, obsP n fa fn cs g)
def SaysQ (fa : List He.Fa) (fn : List He.DefD) (cs : List (Str × D)) (xs : List Xf) (K : PySem.W.Frag) : Prop := (xs.all fun x => xfB K x) = true ∧ SaysP fa fn cs K
def hookQ (n : Nat) (fa : List He.Fa) (fn : List He.DefD) (cs : List (Str × D)) (xs : List Xf) : PySem.W.Hook where
  α := Bool × (Bool × He.AlD)
  obs := fun s => obsQ n fa fn cs xs s.heap.get?
  val := fun _ => (true, (true, He.valD fn))
  says := fun _ h => ∃ K : PySem.W.Frag, K.In h ∧ SaysQ fa fn cs xs K
  of := fun _ s e => ⟨He.frG s.heap.get? (He.asD s.heap.get? n), He.frG_in, congrArg Prod.fst e, congrArg Prod.fst (congrArg Prod.snd e), congrArg Prod.snd (congrArg Prod.snd e)⟩
  keeps := fun _ _ _ ⟨K, hK, c⟩ k => ⟨K, PySem.W.Frag.In.keeps hK k, c⟩
theorem obsQ_eq {n : Nat} {fa : List He.Fa} {fn : List He.DefD} {cs : List (Str × D)} {xs : List Xf} {g : Addr → Option Obj} {s : Shared} (h : ∀ a, g a = s.heap.get? a) : obsQ n fa fn cs xs g = (hookQ n fa fn cs xs).obs s := by
  have e : g = s.heap.get? := funext h
  rw [e] <;> rfl
theorem SaysQ.xf {fa : List He.Fa} {fn : List He.DefD} {cs : List (Str × D)} {xs : List Xf} {K : PySem.W.Frag} (c : SaysQ fa fn cs xs K) (i : Nat) {x : Xf} (h : xs[i]? = some x := by rfl) : xfB K x = true := List.all_eq_true.mp c.1 x (List.mem_of_getElem? h)

/-! ### try, except .. as e: return a bool that the error's class tells -/
section
variable {X : Cx} {K : PySem.W.Frag} {W : XK} {a b c : Expr} {es rest : List Expr} {ta tb tc te : TE} {f g h : M D} {pos : Pos}
def EX (i : Nat) (ad : Addr) (te : TE) (v : Bool) : Prop := ∀ (σ : L2.St) (H : Hp) (Q : VK), σ[i]? = some (some (V.ref ad)) → Q (.bl v) H → te σ H Q
structure XX (X : Cx) (i : Nat) (ad : Addr) (e : Expr) (te : TE) (v : Bool) : Prop where
  p : PE X e te
  s : EX i ad te v
variable {i : Nat} {ad : Addr} {oe : Obj} {pn : List (Addr × Obj)} {v v1 v2 : Bool} {D0 : Addr} {n cx : Str} {p p1 p2 : Pos}
theorem ex_is {c0 : V} {cv : Value} (hc : ∀ u, RelV c0 u → u = cv) (hk : PySem.W.kitOne K (.ref D0) cv = some v) : EX i ad (tCB (rIsE K D0 ad) (tCons (tVar i) (tCons (tC c0) tNil))) v := by
  intro σ H Q h1 h2
  exact ⟨_, h1, c0, cv, v, rfl, hc, hk, h2⟩
theorem xx_isC (C0 : ExcC X.K D0) (hz : Zc (.ref D0) none oe) (hf : ∃ vs, oe.data = .fields vs) (hN : X.N[i]? = some n) (hv : Vis X.env.scope n) (hm : X.mg "isinstance" = none) (hC : X.mg cx = some (.ref (He.ga X.K cx))) (hk : PySem.W.kitOne X.K (.ref D0) (.ref (He.ga X.K cx)) = some v)
    (hg : Gl X "isinstance" := by rfl) (hgC : Gl X cx := by rfl) (hd : (n == ("__debug__" : Str)) = false := by decide) (hcd : (n == ("__classdict__" : Str)) = false := by decide) (hdC : (cx == ("__debug__" : Str)) = false := by decide)
    (he : starEach ((.Name n p1) :: [.Name cx p2]) X.env = (false, eval (.Name n p1) X.env) :: starEach [.Name cx p2] X.env := by rfl) (he2 : starEach ((.Name cx p2) :: []) X.env = (false, eval (.Name cx p2) X.env) :: starEach [] X.env := by rfl) (hpl : (backTo pos (starEach [.Name cx p2] X.env)).any (·.1) = false := by rfl) :
    XX (X.suite ad ((ad, oe) :: pn)) i ad (.Call (.Name "isinstance" p) [.Name n p1, .Name cx p2] [] pos) (tCB (rIsE X.K D0 ad) (tCons (tVar i) (tCons (tC (.ref (He.ga X.K cx))) tNil))) v :=
  ⟨pe_callB (call_isE C0 hz hf) hg hm (by decide +kernel) (pa_cons (pe_var hN hv hd hcd) (pa_cons (pe_glob hgC hC rfl hdC) pa_nil he2) he) (by decide) (by decide) he hpl, ex_is (fun u r => r) hk⟩
theorem xx_isT {T : String} {T' : Str} (C0 : ExcC X.K D0) (hz : Zc (.ref D0) none oe) (hf : ∃ vs, oe.data = .fields vs) (hN : X.N[i]? = some n) (hv : Vis X.env.scope n) (hm : X.mg "isinstance" = none) (hmT : X.mg T' = none) (hbT : bootBuiltins T' = some (.type T)) (hk : PySem.W.kitOne X.K (.ref D0) (.type T) = some v)
    (hg : Gl X "isinstance" := by rfl) (hgT : Gl X T' := by rfl) (hnT : T' ≠ "__name__" := by decide) (hdT : (T' == ("__debug__" : Str)) = false := by decide) (hd : (n == ("__debug__" : Str)) = false := by decide) (hcd : (n == ("__classdict__" : Str)) = false := by decide)
    (he : starEach ((.Name n p1) :: [.Name T' p2]) X.env = (false, eval (.Name n p1) X.env) :: starEach [.Name T' p2] X.env := by rfl) (he2 : starEach ((.Name T' p2) :: []) X.env = (false, eval (.Name T' p2) X.env) :: starEach [] X.env := by rfl) (hpl : (backTo pos (starEach [.Name T' p2] X.env)).any (·.1) = false := by rfl) :
    XX (X.suite ad ((ad, oe) :: pn)) i ad (.Call (.Name "isinstance" p) [.Name n p1, .Name T' p2] [] pos) (tCB (rIsE X.K D0 ad) (tCons (tVar i) (tCons (tC (.ty T)) tNil))) v :=
  ⟨pe_callB (call_isE C0 hz hf) hg hm (by decide +kernel) (pa_cons (pe_var hN hv hd hcd) (pa_cons (pe_bltn hgT hmT hbT rfl hnT hdT) pa_nil he2) he) (by decide) (by decide) he hpl, ex_is (fun u r => r) hk⟩
theorem xx_one {op : BoolOp} (ha : XX X i ad a ta v) : XX X i ad (.BoolOp op [a] pos) ta v := ⟨pe_one ha.p, ha.s⟩
theorem xx_and (ha : XX X i ad a ta v1) (hb : XX X i ad (.BoolOp .And (b :: rest) pos) tb v2) : XX X i ad (.BoolOp .And (a :: b :: rest) pos) (tAndV ta tb) (v1 && v2) := by
  refine ⟨pe_and ha.p hb.p, fun σ H Q h1 h2 => ha.s σ H _ h1 ⟨v1, rfl, ?_⟩⟩
  cases v1 with
  | true => exact hb.s σ H Q h1 h2
  | false => exact h2
theorem xx_not (ha : XX X i ad a ta v) : XX X i ad (.UnaryOp .Not a pos) (tNotV ta) (!v) := ⟨pe_not ha.p, fun σ H Q h1 h2 => ha.s σ H _ h1 ⟨v, rfl, h2⟩⟩

def sTry (n : Nat) (m : SM) (c : Str) (v : Bool) : SM := fun e => match m e with
  | some (.ex c' e1) => if c' = c then some (.rt (.sh (.bl v)) (List.replicate n .un)) else none
  | r => r
theorem ok_un {B F H : Hp} {am : Nat → Addr} {σ : L2.St} {n : Nat} (fh : Ex F H) (bh : Ex B H) (hl : σ.length = n) : Ok K B F H am σ (List.replicate n .un) where
  fh := fh
  bh := bh
  len := by rw [List.length_replicate]; exact hl
  sh := fun i d q => by
    have h := (List.getElem?_eq_some_iff.mp q).2
    rw [List.getElem_replicate] at h
    cases h
  ow := fun i b h q => by
    have h := (List.getElem?_eq_some_iff.mp q).2
    rw [List.getElem_replicate] at h
    cases h
  sep := fun i j b h b' h' a q _ _ _ => by
    have h := (List.getElem?_eq_some_iff.mp q).2
    rw [List.getElem_replicate] at h
    cases h
def tsW (K : PySem.W.Frag) (c : Str) (th : Addr → TE) : Addr → Value → Option Addr → TS := fun a cls d D σ H => (cls = .ref (He.ga K c) ∧ d = none) ∧ tRet (th a) D σ H
def tTryD (K : PySem.W.Frag) (n : Nat) (cc : Value) (i : Nat) (c : Str) (th : Addr → TE) (tbd : XK → TS) : TS := fun D σ H =>
  tbd (fun cls d H => ∀ σ : L2.St, σ.length = n → wAs K cc i (tsW K c th) (fun _ _ _ _ => False) D cls d σ H) D σ H
theorem ss_try {n i : Nat} {cc : Value} {c : Str} {th : Addr → TE} {tbd : XK → TS} {m : SM} {v : Bool} (hi : i < n) (hx : PySem.W.exmOne K (.ref (He.ga K c)) cc = some true) (hth : ∀ a, EX i a (th a) v) (hb : ∀ W, SS K W (tbd W) m) : SS K W (tTryD K n cc i c th tbd) (sTry n m c v) := by
  intro B F H am σ e fl D k q h
  unfold sTry at q
  split at q
  · rename_i c' e1 z
    split at q
    · rename_i hc
      subst hc
      cases Option.some.inj q
      refine hb _ B F H am σ e _ D k z fun σ' F' H' g' k' => fun σ2 hl => ⟨true, hx, fun _ a ha => ⟨⟨rfl, rfl⟩, hth a _ _ _ ?_ ?_⟩, fun w => Bool.noConfusion w⟩
      · rw [List.getElem?_set_self (by omega)]
      · exact h _ (σ2.set i (some (.ref a))) F' H' g' (ok_un k'.fh k'.bh (by rw [List.length_set]; exact hl)) (.bl v)
    · cases q
  · rename_i z
    refine hb _ B F H am σ e fl D k q ?_
    cases fl with
    | nx e1 => exact h
    | bk e1 => exact h
    | ct e1 => exact h
    | rt r e1 => cases r <;> exact h
    | ex c1 e1 => exact absurd q (z c1 e1)
theorem pss_ex {sts : List Stmt} {P : Prop} {t : TS} (h : P → PSs X sts t) : PSs X sts (fun D σ H => P ∧ t D σ H) := ⟨fun pins s σ H D I ⟨h1, h2⟩ => (h h1).run pins s σ H D I h2⟩
theorem xs_try {i : Nat} {x nm c : Str} {th : Addr → TE} {tbd : XK → TS} {m : SM} {v : Bool} {body : List Stmt} {ret : Expr} {np pos' pr : Pos} (hK : X.K = K) (hs : X.stack = X.env :: X.outer) (hf : X.env.frame = some X.env.locals) (hex : X.ex = []) (hN : X.N.Nodup) (hi : X.N[i]? = some nm) (hln : X.env.kindOf nm = some .local) (hx : X.mg x = some (.ref (He.ga X.K x)))
    (hxm : PySem.W.exmOne X.K (.ref (He.ga X.K c)) (.ref (He.ga X.K x)) = some true)
    (hb : ∀ (W : XK) (pn : List (Addr × Obj)) (xe : Value → Shared → Prop), Takes (X.tr pn xe) (fun c d _ H => W c d H) → PassesOwn (model X.prog X.w) X.A X.env xe → XSs (X.tr pn xe) K W body (tbd W) m)
    (hsu : ∀ (a : Addr) (oe : Obj) (pn : List (Addr × Obj)), Zc (.ref (He.ga X.K c)) none oe → (∃ vs, oe.data = .fields vs) → XX (X.suite a ((a, oe) :: pn)) i a ret (th a) v)
    (hg : Gl X x := by rfl) (hd : (x == ("__debug__" : Str)) = false := by decide) :
    XS X K W (.Try body [.ExceptHandler (some (.Name x np)) (some nm) [.Return (some ret) pr] pos'] [] [] pos) (tTryD K X.N.length (.ref (He.ga K x)) i c th tbd) (sTry X.N.length m c v) := by
  subst hK
  have hin : i < X.N.length := (List.getElem?_eq_some_iff.mp hi).1
  refine ⟨rfl, ?_, ss_try hin hxm (fun a => ?_) (fun W => (hb W X.pn (fun e s' => wpAny (model X.prog X.w) X.A (leaving X.env e) (fun _ s'' => L2.CX X.prog X.w X.outer X.H_0 X.s_0 W e s'') (fun _ _ => False) s') (takes_of (X := X.tr X.pn _) hs hf hex rfl) PassesOwn.leaving).s)⟩
  · refine L2.ps_try_as (i := i) (tb := fun W' => tbd (fun cls d H => ∀ σ : L2.St, σ.length = X.N.length → W' cls d σ H)) (ts := tsW X.K c th) (Wout := fun _ _ _ _ => False) hs hf hN hi hln ⟨hg, hd, .inl hx⟩ takes0 (fun W' pn xe tk po => (hb _ pn xe (fun u s' ⟨a, B, sI, pins, σ, H, cls, d, h1, h2, h3, h4, h5, h6, h7, h8, h9⟩ => tk u s' ⟨a, B, sI, pins, σ, H, cls, d, h1, h2, h3, h4, h5, h6, h7, h8, h9 σ h2.len⟩) po).p) ?_
    intro a oe cls d pn hz hfl
    refine pss_ex fun ⟨h1, h2⟩ => ?_
    subst h1
    subst h2
    exact pss_one (ps_ret (hsu a oe pn hz hfl).p)
  · exact (hsu a ⟨.ref (He.ga X.K c), none, .fields #[], #[]⟩ [] ⟨rfl, rfl⟩ ⟨_, rfl⟩).s
end
end Pd
set_option Elab.async false
set_option linter.all false
set_option maxRecDepth 100000
set_option maxHeartbeats 1000000
namespace Pd
open PySem L2
section
variable {X : Cx} {K : PySem.W.Frag} {W : XK} {a b c : Expr} {es rest : List Expr} {ta tb tc te : TE} {f g h : M D} {pos : Pos}
/-! ### a hot list, looked at and not kept -/
def cmph (i : Nat) (o : D → D → Option D) (g : M D) : M D := bnd (hotRead i g) fun p => lft (o (.lst p.2) p.1)
theorem ee_cmph {i : Nat} {r : R2} {o : D → D → Option D} (hr : BinS K r o) (ho : ∀ x y d, o x y = some d → ∃ v, d = .bl v) (hb : EE K tb g) : EE K (tOp r (tVar i) tb) (cmph i o g) := by
  intro B F H am σ e d e' Q k q h
  obtain ⟨⟨y, ds⟩, e1, q1, q2⟩ := bnd_some q
  obtain ⟨q3, rfl⟩ := lft_some q2
  obtain ⟨⟨ds0, z0⟩, z1, z2⟩ := hotRead_some q1
  obtain ⟨b, ad, vs0, _, y1, _⟩ := k.hotL z0
  refine ⟨.ref ad, y1, ?_⟩
  refine hb B F H am σ e y e' _ k z1 fun u F1 H1 g1 k1 r1 => ?_
  obtain ⟨b', a', vs, w0, w1, w2, w3, w4, w5⟩ := k1.hotL z2
  rw [y1] at w1
  cases w1
  obtain ⟨v, rfl⟩ := ho _ _ _ q3
  refine hr (upd F1 ad (.lst vs)) H1 (.ref ad) (.lst ds) u y (.bl v) Q (k1.fh.put w4) (.lst upd_same (w5.mono (Ex.new w2))) (r1.mono (Ex.new w2)) q3 fun v' rv => ?_
  cases rv
  exact h _ F1 H1 g1 k1 (.bl v)
theorem dEq_bl : ∀ x y d, dEq x y = some d → ∃ v, d = .bl v := by
  intro x y d h
  unfold dEq at h
  split at h
  · exact ⟨_, (Option.some.inj h).symm⟩
  · cases h
theorem dNe_bl : ∀ x y d, dNe x y = some d → ∃ v, d = .bl v := by
  intro x y d h
  unfold dNe at h
  split at h
  · exact ⟨_, (Option.some.inj h).symm⟩
  · cases h
section
variable {x : Str} {px : Pos}
theorem xe_eqh (i : Nat) (hu : X.A.units + 64 < cLine) (hN : X.N[i]? = some x) (hv : Vis X.env.scope x) (hb : XE X K b tb g) (hd : (x == ("__debug__" : Str)) = false := by decide) (hcd : (x == ("__classdict__" : Str)) = false := by decide) : XE X K (.Compare (.Name x px) [.Eq] [b] pos) (tOp (rEqD K) (tVar i) tb) (cmph i dEq g) := by
  have h0 : XE X K (.Compare (.Name x px) [.Eq] [b] pos) (tOp (rEqD K) (tVar i) tb) (bin dEq (rdv i) g) := xe_eq hu (xe_var i hN hv hb.k hd hcd) hb
  have k := hb.k
  subst k
  exact ⟨rfl, h0.p, ee_cmph bs_eq dEq_bl hb.s⟩
theorem xe_neh (i : Nat) (hu : X.A.units + 64 < cLine) (hN : X.N[i]? = some x) (hv : Vis X.env.scope x) (hb : XE X K b tb g) (hd : (x == ("__debug__" : Str)) = false := by decide) (hcd : (x == ("__classdict__" : Str)) = false := by decide) : XE X K (.Compare (.Name x px) [.NotEq] [b] pos) (tOp (rNeD K) (tVar i) tb) (cmph i dNe g) := by
  have h0 : XE X K (.Compare (.Name x px) [.NotEq] [b] pos) (tOp (rNeD K) (tVar i) tb) (bin dNe (rdv i) g) := xe_ne hu (xe_var i hN hv hb.k hd hcd) hb
  have k := hb.k
  subst k
  exact ⟨rfl, h0.p, ee_cmph bs_ne dNe_bl hb.s⟩
theorem xt_eqh (i : Nat) (hu : X.A.units + 64 < cLine) (hN : X.N[i]? = some x) (hv : Vis X.env.scope x) (hb : XE X K b tb g) (hd : (x == ("__debug__" : Str)) = false := by decide) (hcd : (x == ("__classdict__" : Str)) = false := by decide) : XT X K (.Compare (.Name x px) [.Eq] [b] pos) (tTest (tOp (rEqD K) (tVar i) tb)) (asB (cmph i dEq g)) := by
  have h0 : XT X K (.Compare (.Name x px) [.Eq] [b] pos) (tTest (tOp (rEqD K) (tVar i) tb)) (asB (bin dEq (rdv i) g)) := xt_eq hu (xe_var i hN hv hb.k hd hcd) hb
  have k := hb.k
  subst k
  exact ⟨rfl, h0.p, et_test (ee_cmph bs_eq dEq_bl hb.s)⟩
theorem xt_neh (i : Nat) (hu : X.A.units + 64 < cLine) (hN : X.N[i]? = some x) (hv : Vis X.env.scope x) (hb : XE X K b tb g) (hd : (x == ("__debug__" : Str)) = false := by decide) (hcd : (x == ("__classdict__" : Str)) = false := by decide) : XT X K (.Compare (.Name x px) [.NotEq] [b] pos) (tTest (tOp (rNeD K) (tVar i) tb)) (asB (cmph i dNe g)) := by
  have h0 : XT X K (.Compare (.Name x px) [.NotEq] [b] pos) (tTest (tOp (rNeD K) (tVar i) tb)) (asB (bin dNe (rdv i) g)) := xt_ne hu (xe_var i hN hv hb.k hd hcd) hb
  have k := hb.k
  subst k
  exact ⟨rfl, h0.p, et_test (ee_cmph bs_ne dNe_bl hb.s)⟩
end
def isih (i : Nat) (T : String) : M D := fun e => match hotL e i with
  | some _ => (match kitB "list" T with
    | some r => some (.bl r, e)
    | none => none)
  | none => none
theorem ee_isih {i : Nat} {T : String} : EE K (tCB (rIsi K) (tCons (tVar i) (tCons (tC (.ty T)) tNil))) (isih i T) := by
  intro B F H am σ e d e' Q k q h
  unfold isih at q
  split at q
  · rename_i ds z
    split at q
    · rename_i r hr
      cases Option.some.inj q
      obtain ⟨b', a', vs, w0, w1, w2, w3, w4, w5⟩ := k.hotL z
      exact ⟨_, w1, _, .ty T, .type "list", .type T, r, rfl, .ty T, .base (.lst w4), kit_ty hr, h _ F H (Gr.refl B F) k (.bl r)⟩
    · cases q
  · cases q
theorem xe_isih (i : Nat) {T : String} {x T' : Str} {p px px2 : Pos} (hN : X.N[i]? = some x) (hv : Vis X.env.scope x) (hm : X.mg "isinstance" = none) (hmT : X.mg T' = none) (hbT : bootBuiltins T' = some (.type T)) (hk : X.K = K := by rfl) (hg : Gl X "isinstance" := by rfl) (hgT : Gl X T' := by rfl) (hnT : T' ≠ "__name__" := by decide) (hdT : (T' == ("__debug__" : Str)) = false := by decide) (hd : (x == ("__debug__" : Str)) = false := by decide) (hcd : (x == ("__classdict__" : Str)) = false := by decide)
    (he : starEach ((.Name x px2) :: [.Name T' px]) X.env = (false, eval (.Name x px2) X.env) :: starEach [.Name T' px] X.env := by rfl) (he2 : starEach ((.Name T' px) :: []) X.env = (false, eval (.Name T' px) X.env) :: starEach [] X.env := by rfl) (hpl : (backTo pos (starEach [.Name T' px] X.env)).any (·.1) = false := by rfl) :
    XE X K (.Call (.Name "isinstance" p) [.Name x px2, .Name T' px] [] pos) (tCB (rIsi K) (tCons (tVar i) (tCons (tC (.ty T)) tNil))) (isih i T) := by
  subst hk
  exact ⟨rfl, pe_callB call_isi hg hm (by decide +kernel) (pa_cons (pe_var hN hv hd hcd) (pa_cons (pe_bltn hgT hmT hbT rfl hnT hdT) pa_nil he2) he) (by decide) (by decide) he hpl, ee_isih⟩
end
end Pd
set_option Elab.async false
set_option linter.all false
set_option maxRecDepth 100000
namespace Fq
open Lean.Grind
/-! ### ints mod p -/
section
variable {p : Nat} [NeZero p]
theorem pp : 0 < p := Nat.pos_of_ne_zero (NeZero.ne p)
theorem ppi : 0 < (p : Int) := by have := pp (p := p); omega
def toF (z : Int) : Fin p := ⟨(z % p).toNat, by
  have h := Int.emod_lt_of_pos z (ppi (p := p))
  have h2 := Int.emod_nonneg z (show (p : Int) ≠ 0 by have := ppi (p := p); omega)
  omega⟩
theorem toF_val (z : Int) : ((toF (p := p) z).val : Int) = z % p := by
  have h2 := Int.emod_nonneg z (show (p : Int) ≠ 0 by have := ppi (p := p); omega)
  show (((z % p).toNat : Nat) : Int) = _
  omega
theorem toF_eq {z w : Int} (h : z % p = w % p) : toF (p := p) z = toF w := Fin.ext (by
  show (z % p).toNat = (w % p).toNat
  rw [h])
theorem toF_mod (z : Int) : toF (p := p) (z % p) = toF z := toF_eq (Int.emod_emod_of_dvd _ (Int.dvd_refl _))
theorem toF_self (a : Fin p) : toF (p := p) (a.val : Int) = a := Fin.ext (by
  have h : ((toF (p := p) (a.val : Int)).val : Int) = (a.val : Int) % p := toF_val _
  have h2 : ((a.val : Int)) % p = a.val := Int.emod_eq_of_lt (by omega) (by have := a.isLt; omega)
  omega)
theorem val_of {z : Int} {a : Fin p} (h : toF z = a) : z % p = (a.val : Int) := by rw [← h, toF_val]
theorem toF_add (z w : Int) : toF (p := p) (z + w) = toF z + toF w := Fin.ext (by
  have h : ((toF (p := p) (z + w)).val : Int) = (z + w) % p := toF_val _
  have h1 : ((toF (p := p) z + toF w).val : Int) = (((toF (p := p) z).val : Int) + ((toF (p := p) w).val : Int)) % p := by
    rw [Fin.val_add] <;> simp
  rw [toF_val, toF_val, ← Int.add_emod] at h1
  omega)
theorem toF_mul (z w : Int) : toF (p := p) (z * w) = toF z * toF w := Fin.ext (by
  have h : ((toF (p := p) (z * w)).val : Int) = (z * w) % p := toF_val _
  have h1 : ((toF (p := p) z * toF w).val : Int) = (((toF (p := p) z).val : Int) * ((toF (p := p) w).val : Int)) % p := by
    rw [Fin.val_mul] <;> simp
  rw [toF_val, toF_val, ← Int.mul_emod] at h1
  omega)
theorem toF_zero : toF (p := p) 0 = 0 := Fin.ext (by show (0 % (p : Int)).toNat = _; simp)
theorem toF_nat (n : Nat) : toF (p := p) (n : Int) = Fin.ofNat p n := Fin.ext (by
  have h : ((toF (p := p) (n : Int)).val : Int) = (n : Int) % p := toF_val _
  have h2 : (Fin.ofNat p n).val = n % p := rfl
  omega)
theorem toF_one : toF (p := p) 1 = 1 := toF_nat 1
theorem toF_sub (z w : Int) : toF (p := p) (z - w) = toF z - toF w := by
  have h := toF_add (p := p) (z - w) w
  rw [show z - w + w = z by omega] at h
  grind
theorem toF_neg (z : Int) : toF (p := p) (-z) = - toF z := by
  have h := toF_sub (p := p) 0 z
  rw [toF_zero, show (0 : Int) - z = -z by omega] at h
  grind
end
/-! ### pairs: Fp and a root of r -/
structure El (p r : Nat) where
  a : Fin p
  b : Fin p
deriving DecidableEq
section
variable {p r : Nat} [NeZero p]
theorem El.ext' {x y : El p r} (h1 : x.a = y.a) (h2 : x.b = y.b) : x = y := by
  cases x; cases y; cases h1; cases h2; rfl
def rr (p r : Nat) [NeZero p] : Fin p := toF (r : Int)
instance : Add (El p r) := ⟨fun x y => ⟨x.a + y.a, x.b + y.b⟩⟩
instance : Mul (El p r) := ⟨fun x y => ⟨x.a * y.a + rr p r * x.b * y.b, x.a * y.b + x.b * y.a⟩⟩
instance : Neg (El p r) := ⟨fun x => ⟨-x.a, -x.b⟩⟩
instance : Sub (El p r) := ⟨fun x y => ⟨x.a - y.a, x.b - y.b⟩⟩
instance : NatCast (El p r) := ⟨fun n => ⟨toF (n : Int), 0⟩⟩
instance : IntCast (El p r) := ⟨fun n => ⟨toF n, 0⟩⟩
instance instOf (n : Nat) : OfNat (El p r) n := ⟨⟨toF (n : Int), 0⟩⟩
instance : SMul Nat (El p r) := ⟨fun n x => ⟨toF (n : Int) * x.a, toF (n : Int) * x.b⟩⟩
instance : SMul Int (El p r) := ⟨fun n x => ⟨toF n * x.a, toF n * x.b⟩⟩
def npw (x : El p r) : Nat → El p r
  | 0 => ⟨toF 1, 0⟩
  | n + 1 => npw x n * x
instance : HPow (El p r) Nat (El p r) := ⟨npw⟩
theorem add_a (x y : El p r) : (x + y).a = x.a + y.a := rfl
theorem add_b (x y : El p r) : (x + y).b = x.b + y.b := rfl
theorem sub_a (x y : El p r) : (x - y).a = x.a - y.a := rfl
theorem sub_b (x y : El p r) : (x - y).b = x.b - y.b := rfl
theorem mul_a (x y : El p r) : (x * y).a = x.a * y.a + rr p r * x.b * y.b := rfl
theorem mul_b (x y : El p r) : (x * y).b = x.a * y.b + x.b * y.a := rfl
theorem neg_a (x : El p r) : (-x).a = -x.a := rfl
theorem neg_b (x : El p r) : (-x).b = -x.b := rfl
theorem of_a (n : Nat) : (OfNat.ofNat n : El p r).a = toF (n : Int) := rfl
theorem of_b (n : Nat) : (OfNat.ofNat n : El p r).b = 0 := rfl
theorem one_a : (1 : El p r).a = 1 := toF_one
theorem one_b : (1 : El p r).b = 0 := rfl
theorem zero_a : (0 : El p r).a = 0 := toF_zero
theorem zero_b : (0 : El p r).b = 0 := rfl
instance : CommRing (El p r) where
  add_zero x := El.ext' (by rw [add_a, zero_a]; grind) (by rw [add_b, zero_b]; grind)
  add_comm x y := El.ext' (by simp only [add_a]; grind) (by simp only [add_b]; grind)
  add_assoc x y z := El.ext' (by simp only [add_a]; grind) (by simp only [add_b]; grind)
  mul_assoc x y z := El.ext' (by simp only [mul_a, mul_b]; grind) (by simp only [mul_a, mul_b]; grind)
  mul_one x := El.ext' (by simp only [mul_a, mul_b, one_a, one_b]; grind) (by simp only [mul_a, mul_b, one_a, one_b]; grind)
  one_mul x := El.ext' (by simp only [mul_a, mul_b, one_a, one_b]; grind) (by simp only [mul_a, mul_b, one_a, one_b]; grind)
  left_distrib x y z := El.ext' (by simp only [mul_a, mul_b, add_a, add_b]; grind) (by simp only [mul_a, mul_b, add_a, add_b]; grind)
  right_distrib x y z := El.ext' (by simp only [mul_a, mul_b, add_a, add_b]; grind) (by simp only [mul_a, mul_b, add_a, add_b]; grind)
  zero_mul x := El.ext' (by simp only [mul_a, mul_b, zero_a, zero_b]; grind) (by simp only [mul_a, mul_b, zero_a, zero_b]; grind)
  mul_zero x := El.ext' (by simp only [mul_a, mul_b, zero_a, zero_b]; grind) (by simp only [mul_a, mul_b, zero_a, zero_b]; grind)
  pow_zero x := rfl
  pow_succ x n := rfl
  ofNat_succ n := El.ext' (by
    show toF (((n + 1 : Nat)) : Int) = toF (n : Int) + toF ((1 : Nat) : Int)
    rw [← toF_add] <;> rfl) (by show (0 : Fin p) = 0 + 0; grind)
  ofNat_eq_natCast n := rfl
  nsmul_eq_natCast_mul n x := El.ext' (by show toF (n : Int) * x.a = toF (n : Int) * x.a + rr p r * 0 * x.b; grind) (by show toF (n : Int) * x.b = toF (n : Int) * x.b + 0 * x.a; grind)
  neg_add_cancel x := El.ext' (by simp only [add_a, neg_a, zero_a]; grind) (by simp only [add_b, neg_b, zero_b]; grind)
  sub_eq_add_neg x y := El.ext' (by simp only [add_a, neg_a, sub_a]; grind) (by simp only [add_b, neg_b, sub_b]; grind)
  neg_zsmul i x := El.ext' (by show toF (-i) * x.a = -(toF i * x.a); rw [toF_neg]; grind) (by show toF (-i) * x.b = -(toF i * x.b); rw [toF_neg]; grind)
  zsmul_natCast_eq_nsmul n x := rfl
  intCast_ofNat n := rfl
  intCast_neg i := El.ext' (by show toF (-i) = - toF i; exact toF_neg i) (by show (0 : Fin p) = -0; grind)
  mul_comm x y := El.ext' (by simp only [mul_a]; grind) (by simp only [mul_b]; grind)
end
end Fq
set_option Elab.async false
set_option linter.all false
set_option maxRecDepth 100000
namespace Fq
open Lean.Grind
/-- the inverse of k in the program's table -/
def iv (p : Nat) (k : Nat) : Int := ((Pd.invs (p : Int))[k]?).getD 0
def goodB (p r : Nat) : Bool := decide (5 ≤ p) && (decide (r < p) && (decide (iv p 0 = 0) && ((List.range p).all fun k => decide (k = 0) || (decide (0 ≤ iv p k) && (decide (iv p k < p) && decide (((k : Int) * iv p k) % p = 1)))) && ((List.range p).all fun k => decide ((k * k) % p ≠ r))))
class Good (p r : Nat) : Prop where
  h : goodB p r = true
section
variable {p r : Nat}
theorem Good.five [g : Good p r] : 5 ≤ p := by
  have h := g.h
  unfold goodB at h
  simp only [Bool.and_eq_true, decide_eq_true_eq] at h
  exact h.1
theorem Good.rlt [g : Good p r] : r < p := by
  have h := g.h
  unfold goodB at h
  simp only [Bool.and_eq_true, decide_eq_true_eq] at h
  exact h.2.1
theorem Good.iv0 [g : Good p r] : iv p 0 = 0 := by
  have h := g.h
  unfold goodB at h
  simp only [Bool.and_eq_true, decide_eq_true_eq] at h
  exact h.2.2.1.1
theorem Good.iv [g : Good p r] {k : Nat} (hk : k < p) (h0 : k ≠ 0) : 0 ≤ iv p k ∧ iv p k < p ∧ ((k : Int) * iv p k) % p = 1 := by
  have h := g.h
  unfold goodB at h
  simp only [Bool.and_eq_true, decide_eq_true_eq] at h
  have h1 := List.all_eq_true.mp h.2.2.1.2 k (List.mem_range.mpr hk)
  simp only [Bool.or_eq_true, Bool.and_eq_true, decide_eq_true_eq] at h1
  rcases h1 with h1 | h1
  · exact absurd h1 h0
  · exact h1
theorem Good.non [g : Good p r] {k : Nat} (hk : k < p) : (k * k) % p ≠ r := by
  have h := g.h
  unfold goodB at h
  simp only [Bool.and_eq_true, decide_eq_true_eq] at h
  have h1 := List.all_eq_true.mp h.2.2.2 k (List.mem_range.mpr hk)
  exact of_decide_eq_true h1
theorem Good.ne [g : Good p r] : NeZero p := ⟨by have := g.five; omega⟩
end
section
variable {p r : Nat} [NeZero p] [g : Good p r]
def fi (a : Fin p) : Fin p := toF (iv p a.val)
include g in
theorem fi_zero : fi (0 : Fin p) = 0 := by
  show toF (iv p ((0 : Fin p)).val) = 0
  have e : ((0 : Fin p)).val = 0 := by simp
  rw [e, g.iv0, toF_zero]
include g in
theorem fi_mul {a : Fin p} (h : a ≠ 0) : a * fi a = 1 := by
  have h0 : a.val ≠ 0 := fun z => h (Fin.ext (by simpa using z))
  obtain ⟨_, _, h3⟩ := g.iv a.isLt h0
  have h4 : toF (p := p) ((a.val : Int) * iv p a.val) = toF 1 := toF_eq (by
    rw [h3]
    exact (Int.emod_eq_of_lt (by decide) (by have := g.five; omega)).symm)
  rw [toF_mul, toF_self, toF_one] at h4
  exact h4
include g in
theorem fin_int {a b : Fin p} (h : a * b = 0) : a = 0 ∨ b = 0 := by
  by_cases q : a = 0
  · exact .inl q
  · right
    have h1 := fi_mul (r := r) q
    have h2 : a * fi a * b = a * b * fi a := by grind
    rw [h1, h] at h2
    grind
include g in
theorem non_sq (t : Fin p) : t * t ≠ rr p r := fun h => by
  have h1 : (t * t).val = (t.val * t.val) % p := Fin.val_mul t t
  have h2 : ((rr p r).val : Int) = (r : Int) % p := toF_val _
  have h3 : ((r : Int)) % p = r := Int.emod_eq_of_lt (by omega) (by have := g.rlt; omega)
  rw [h] at h1
  have := g.non t.isLt
  omega
def nrm (x : El p r) : Fin p := x.a * x.a - rr p r * x.b * x.b
theorem nrm_ne {x : El p r} (h : x ≠ 0) : nrm x ≠ 0 := fun z => by
  unfold nrm at z
  by_cases hb : x.b = 0
  · rw [hb] at z
    have z2 : x.a * x.a = 0 := by grind
    have ha : x.a = 0 := by
      rcases fin_int (r := r) z2 with q | q <;> exact q
    exact h (El.ext' (by rw [ha, zero_a]) (by rw [hb, zero_b]))
  · have h1 := fi_mul (r := r) hb
    exact non_sq (r := r) (x.a * fi x.b) (by grind)
instance : Inv (El p r) := ⟨fun x => ⟨x.a * fi (nrm x), (0 - x.b) * fi (nrm x)⟩⟩
instance : Div (El p r) := ⟨fun x y => x * y⁻¹⟩
theorem inv_a (x : El p r) : (x⁻¹).a = x.a * fi (nrm x) := rfl
theorem inv_b (x : El p r) : (x⁻¹).b = (0 - x.b) * fi (nrm x) := rfl
theorem mul_inv {x : El p r} (h : x ≠ 0) : x * x⁻¹ = 1 := by
  have h1 := fi_mul (r := r) (nrm_ne h)
  refine El.ext' ?_ ?_
  · rw [mul_a, inv_a, inv_b, one_a]
    generalize fi (nrm x) = t at h1
    unfold nrm at h1
    grind
  · rw [mul_b, inv_a, inv_b, one_b]
    grind
theorem inv_zero' : (0 : El p r)⁻¹ = 0 := by
  refine El.ext' ?_ ?_
  · rw [inv_a, zero_a]; grind
  · rw [inv_b, zero_b]; grind
theorem one_ne : (0 : El p r) ≠ 1 := fun h => by
  have h1 := congrArg El.a h
  rw [zero_a, one_a] at h1
  have h2 := congrArg Fin.val h1
  have h3 : ((1 : Fin p)).val = 1 % p := rfl
  have h4 : ((0 : Fin p)).val = 0 := by simp
  have h5 : 1 % p = 1 := Nat.mod_eq_of_lt (by have := g.five; omega)
  omega
theorem mul_cancel {x y z : El p r} (h : x ≠ 0) (e : x * y = x * z) : y = z := by
  have h1 := mul_inv h
  have h2 : x⁻¹ * (x * y) = x⁻¹ * (x * z) := by rw [e]
  grind
theorem inv_ne {x : El p r} (h : x ≠ 0) : x⁻¹ ≠ 0 := fun z => by
  have h1 := mul_inv h
  rw [z] at h1
  exact one_ne (p := p) (r := r) (by grind)
theorem inv_inv' (x : El p r) : (x⁻¹)⁻¹ = x := by
  by_cases h : x = 0
  · rw [h, inv_zero', inv_zero']
  · have h1 := mul_inv h
    have h2 := mul_inv (inv_ne h)
    have h3 : x * (x⁻¹ * x⁻¹⁻¹) = x * 1 := by rw [h2]
    grind
def zpw (x : El p r) : Int → El p r
  | .ofNat n => npw x n
  | .negSucc n => (npw x (n + 1))⁻¹
instance instZ : HPow (El p r) Int (El p r) := ⟨zpw⟩
theorem inv_one' : (1 : El p r)⁻¹ = 1 := by
  have h := mul_inv (x := (1 : El p r)) (fun z => one_ne z.symm)
  grind
instance : Field (El p r) where
  div_eq_mul_inv x y := rfl
  zero_ne_one := one_ne
  inv_zero := inv_zero'
  mul_inv_cancel h := mul_inv h
  zpow_zero x := rfl
  zpow_succ x n := rfl
  zpow_neg x n := by
    match n with
    | .ofNat 0 => exact inv_one'.symm
    | .ofNat (n + 1) => rfl
    | .negSucc n =>
      show npw x (n + 1) = ((npw x (n + 1))⁻¹)⁻¹
      exact (inv_inv' _).symm
theorem mul_ne {x y : El p r} (h1 : x ≠ 0) (h2 : y ≠ 0) : x * y ≠ 0 := fun z => by
  have := mul_inv h1
  have : x⁻¹ * (x * y) = 0 := by grind
  grind
end
/-! ### the primes of the program -/
def primes : List (Nat × Nat) := [(5, 2), (7, 3), (11, 2), (13, 2), (17, 3), (19, 2), (23, 5), (29, 2), (31, 3), (37, 2), (41, 3), (43, 2), (47, 5), (53, 2), (59, 2), (61, 2), (67, 2), (71, 7), (73, 5), (79, 3), (83, 2), (89, 3), (97, 5)]
theorem primes_good : (primes.all fun x => goodB x.1 x.2) = true := by decide +kernel
end Fq
set_option Elab.async false
set_option linter.all false
set_option maxRecDepth 100000
namespace Fq
open Lean.Grind
section
variable {p r : Nat} [NeZero p]
theorem npw_zero (x : El p r) : x ^ (0 : Nat) = 1 := rfl
theorem npw_succ (x : El p r) (n : Nat) : x ^ (n + 1) = x ^ n * x := rfl
theorem npw_add (x : El p r) (m : Nat) : ∀ n : Nat, x ^ (m + n) = x ^ m * x ^ n
  | 0 => by rw [Nat.add_zero, npw_zero]; grind
  | n + 1 => by
    rw [← Nat.add_assoc, npw_succ, npw_add x m n, npw_succ]
    grind
theorem npw_mul (x y : El p r) : ∀ n : Nat, (x * y) ^ n = x ^ n * y ^ n
  | 0 => by rw [npw_zero, npw_zero, npw_zero]; grind
  | n + 1 => by
    rw [npw_succ, npw_mul x y n, npw_succ, npw_succ]
    grind
theorem npw_one : ∀ n : Nat, (1 : El p r) ^ n = 1
  | 0 => rfl
  | n + 1 => by rw [npw_succ, npw_one n]; grind
theorem npw_sq (x : El p r) : ∀ n : Nat, (x * x) ^ n = x ^ (2 * n)
  | 0 => rfl
  | n + 1 => by
    rw [npw_succ, npw_sq x n, show 2 * (n + 1) = 2 * n + 1 + 1 by omega, npw_succ, npw_succ]
    grind
/-- square and multiply, k bits -/
def powL (k : Nat) (f a : El p r) (n : Nat) : El p r := match k with
  | 0 => f
  | k + 1 => powL k (if n % 2 = 1 then f * a else f) (a * a) (n / 2)
theorem powL_eq : ∀ (k : Nat) (f a : El p r) (n : Nat), n < 2 ^ k → powL k f a n = f * a ^ n
  | 0, f, a, n, h => by
    have e : n = 0 := by simpa using h
    rw [e, npw_zero]
    show f = f * 1
    grind
  | k + 1, f, a, n, h => by
    show powL k _ _ _ = _
    rw [powL_eq k _ _ _ (by rw [Nat.pow_succ] at h; omega), npw_sq]
    by_cases q : n % 2 = 1
    · rw [if_pos q]
      have e : n = 2 * (n / 2) + 1 := by omega
      have e2 : a ^ n = a ^ (2 * (n / 2)) * a := by
        rw [← npw_succ, ← e]
      rw [e2]
      grind
    · rw [if_neg q]
      have e : n = 2 * (n / 2) := by omega
      rw [← e]
/-! the same on pairs of numbers -/
def elN (x : Nat × Nat) : El p r := ⟨toF (x.1 : Int), toF (x.2 : Int)⟩
def mulN (p r : Nat) (x y : Nat × Nat) : Nat × Nat := ((x.1 * y.1 + r * (x.2 * y.2)) % p, (x.1 * y.2 + x.2 * y.1) % p)
theorem elN_mul (x y : Nat × Nat) : elN (p := p) (r := r) (mulN p r x y) = elN x * elN y := by
  refine El.ext' ?_ ?_
  · show toF (((x.1 * y.1 + r * (x.2 * y.2)) % p : Nat) : Int) = toF (x.1 : Int) * toF (y.1 : Int) + toF (r : Int) * toF (x.2 : Int) * toF (y.2 : Int)
    rw [Int.natCast_emod, toF_mod, Int.natCast_add, toF_add, Int.natCast_mul, toF_mul, Int.natCast_mul, toF_mul, Int.natCast_mul, toF_mul]
    grind
  · show toF (((x.1 * y.2 + x.2 * y.1) % p : Nat) : Int) = toF (x.1 : Int) * toF (y.2 : Int) + toF (x.2 : Int) * toF (y.1 : Int)
    rw [Int.natCast_emod, toF_mod, Int.natCast_add, toF_add, Int.natCast_mul, toF_mul, Int.natCast_mul, toF_mul]
def powN (p r k : Nat) (f a : Nat × Nat) (n : Nat) : Nat × Nat := match k with
  | 0 => f
  | k + 1 => powN p r k (if n % 2 = 1 then mulN p r f a else f) (mulN p r a a) (n / 2)
theorem elN_pow : ∀ (k : Nat) (f a : Nat × Nat) (n : Nat), elN (p := p) (r := r) (powN p r k f a n) = powL k (elN f) (elN a) n
  | 0, f, a, n => rfl
  | k + 1, f, a, n => by
    show elN (powN p r k _ _ _) = powL k _ _ _
    rw [elN_pow k, elN_mul]
    by_cases q : n % 2 = 1
    · rw [if_pos q, if_pos q, elN_mul]
    · rw [if_neg q, if_neg q]
end
/-- x ^ (p * p - 1) = 1 for the pairs (n, 0), (1, n), (0, 1) -/
def oneN (p r : Nat) (x : Nat × Nat) : Bool := match powN p r 14 (1, 0) x (p * p - 1) with
  | (1, 0) => true
  | _ => false
def ordB (p r : Nat) : Bool := oneN p r (0, 1) && ((List.range p).all fun k => oneN p r (1, k) && (decide (k = 0) || oneN p r (k, 0)))
theorem primes_ord : (primes.all fun x => ordB x.1 x.2) = true := by decide +kernel
end Fq
set_option Elab.async false
set_option linter.all false
set_option maxRecDepth 100000
namespace Fq
open Lean.Grind
class GoodO (p r : Nat) : Prop extends Good p r where
  o : ordB p r = true
  mem : (p, r) ∈ primes
theorem primes_97 : (primes.all fun x => decide (x.1 ≤ 97)) = true := by decide
theorem GoodO.le97 {p r : Nat} [g : GoodO p r] : p ≤ 97 := of_decide_eq_true (List.all_eq_true.mp primes_97 (p, r) g.mem)
theorem good_of {x : Nat × Nat} (h : x ∈ primes) : GoodO x.1 x.2 :=
  { h := List.all_eq_true.mp primes_good x h, o := List.all_eq_true.mp primes_ord x h, mem := h }
section
variable {p r : Nat} [NeZero p] [g : GoodO p r]
theorem elN_one : elN (p := p) (r := r) (1, 0) = 1 := El.ext' (by rw [one_a]; exact toF_one) (by rw [one_b]; exact toF_zero)
theorem pp_lt : p * p < 2 ^ 14 ∨ True := .inr trivial
include g in
theorem p_le_of (h : p ≤ 97) : p * p - 1 < 2 ^ 14 := by
  have h1 : p * p ≤ 97 * 97 := Nat.mul_le_mul h h
  omega
include g in
theorem pow_elN (h97 : p ≤ 97) {x : Nat × Nat} (h : oneN p r x = true) : elN (p := p) (r := r) x ^ (p * p - 1) = 1 := by
  have e := elN_pow (p := p) (r := r) 14 (1, 0) x (p * p - 1)
  rw [powL_eq _ _ _ _ (p_le_of (r := r) h97), elN_one] at e
  unfold oneN at h
  split at h
  · rename_i z
    rw [z, elN_one] at e
    grind
  · cases h
theorem ord_sc (h97 : p ≤ 97) {a : Fin p} (h : a ≠ 0) : (⟨a, 0⟩ : El p r) ^ (p * p - 1) = 1 := by
  have ho := g.o
  unfold ordB at ho
  simp only [Bool.and_eq_true] at ho
  have h1 := List.all_eq_true.mp ho.2 a.val (List.mem_range.mpr a.isLt)
  simp only [Bool.and_eq_true, Bool.or_eq_true, decide_eq_true_eq] at h1
  rcases h1.2 with h2 | h2
  · exact absurd (Fin.ext (by simpa using h2)) h
  · have h3 := pow_elN (r := r) h97 h2
    have e : elN (p := p) (r := r) (a.val, 0) = ⟨a, 0⟩ := El.ext' (toF_self a) toF_zero
    rw [e] at h3
    exact h3
theorem ord_t (h97 : p ≤ 97) (a : Fin p) : (⟨1, a⟩ : El p r) ^ (p * p - 1) = 1 := by
  have ho := g.o
  unfold ordB at ho
  simp only [Bool.and_eq_true] at ho
  have h1 := List.all_eq_true.mp ho.2 a.val (List.mem_range.mpr a.isLt)
  simp only [Bool.and_eq_true, Bool.or_eq_true, decide_eq_true_eq] at h1
  have h3 := pow_elN (r := r) h97 h1.1
  have e : elN (p := p) (r := r) (1, a.val) = ⟨1, a⟩ := El.ext' toF_one (toF_self a)
  rw [e] at h3
  exact h3
theorem ord_w (h97 : p ≤ 97) : (⟨0, 1⟩ : El p r) ^ (p * p - 1) = 1 := by
  have ho := g.o
  unfold ordB at ho
  simp only [Bool.and_eq_true] at ho
  have h3 := pow_elN (r := r) h97 ho.1
  have e : elN (p := p) (r := r) (0, 1) = ⟨0, 1⟩ := El.ext' toF_zero toF_one
  rw [e] at h3
  exact h3
/-- every element but zero has an order that divides p * p - 1 -/
theorem pow_ord (h97 : p ≤ 97) {x : El p r} (h : x ≠ 0) : x ^ (p * p - 1) = 1 := by
  by_cases ha : x.a = 0
  · have hb : x.b ≠ 0 := fun z => h (El.ext' (by rw [ha, zero_a]) (by rw [z, zero_b]))
    have e : x = (⟨x.b, 0⟩ : El p r) * ⟨0, 1⟩ := El.ext' (by rw [mul_a, ha]; simp only; grind) (by rw [mul_b]; simp only; grind)
    rw [e, npw_mul, ord_sc h97 hb, ord_w h97]
    grind
  · have h1 := fi_mul (r := r) ha
    have e : x = (⟨x.a, 0⟩ : El p r) * ⟨1, x.b * fi x.a⟩ := El.ext' (by rw [mul_a]; simp only; grind) (by rw [mul_b]; simp only; grind)
    rw [e, npw_mul, ord_sc h97 ha, ord_t h97]
    grind
theorem pow_inv (h97 : p ≤ 97) {x : El p r} (h : x ≠ 0) : x ^ (p * p - 2) = x⁻¹ := by
  have h1 := pow_ord h97 h
  have h5 := g.five
  have h6 : 5 * 5 ≤ p * p := Nat.mul_le_mul h5 h5
  rw [show p * p - 1 = p * p - 2 + 1 by omega, npw_succ] at h1
  have h2 := mul_inv h
  exact mul_cancel h (by grind)
theorem pow_inv0 (h97 : p ≤ 97) : (0 : El p r) ^ (p * p - 2) = 0 := by
  have h5 := g.five
  have h6 : 5 * 5 ≤ p * p := Nat.mul_le_mul h5 h5
  rw [show p * p - 2 = p * p - 3 + 1 by omega, npw_succ]
  grind
end
end Fq
set_option Elab.async false
set_option linter.all false
set_option maxRecDepth 100000
namespace Fq
open PySem Pd
/-! ### elements as data -/
section
variable {p r : Nat} [NeZero p]
def prF (x : El p r) : D := .tup [.int (x.a.val : Int), .int (x.b.val : Int)]
theorem pr_of {z w : Int} {x : El p r} (h1 : toF z = x.a) (h2 : toF w = x.b) : D.tup [.int (z % p), .int (w % p)] = prF x := by
  unfold prF
  rw [val_of h1, val_of h2]
theorem pr_inj {x y : El p r} (h : prF x = prF y) : x = y := by
  unfold prF at h
  simp only [D.tup.injEq, List.cons.injEq, D.int.injEq] at h
  exact El.ext' (Fin.ext (by omega)) (Fin.ext (by omega))
theorem ix0 (x : El p r) : dIx (prF x) (.int 0) = some (.int (x.a.val : Int)) := rfl
theorem ix1 (x : El p r) : dIx (prF x) (.int 1) = some (.int (x.b.val : Int)) := rfl
theorem shOk_pair (a b : Int) : shOk (.tup [.int a, .int b]) = true := by rfl
theorem eq_pair (a b c d : Int) : dEq (.tup [.int a, .int b]) (.tup [.int c, .int d]) = some (.bl (decide (a = c) && decide (b = d))) := by
  unfold dEq dEqB
  rw [shOk_pair, shOk_pair]
  simp [dEqv, dEqvL]
theorem ne_pair (a b c d : Int) : dNe (.tup [.int a, .int b]) (.tup [.int c, .int d]) = some (.bl (!(decide (a = c) && decide (b = d)))) := by
  unfold dNe dEqB
  rw [shOk_pair, shOk_pair]
  simp [dEqv, dEqvL]
theorem dec_pr (x y : El p r) : (decide ((x.a.val : Int) = (y.a.val : Int)) && decide ((x.b.val : Int) = (y.b.val : Int))) = decide (x = y) := by
  rw [Bool.eq_iff_iff]
  simp only [Bool.and_eq_true, decide_eq_true_eq]
  constructor
  · rintro ⟨h1, h2⟩
    exact El.ext' (Fin.ext (by omega)) (Fin.ext (by omega))
  · rintro rfl
    exact ⟨rfl, rfl⟩
theorem eq_pr (x y : El p r) : dEq (prF x) (prF y) = some (.bl (decide (x = y))) := by
  rw [← dec_pr]
  exact eq_pair _ _ _ _
theorem ne_pr (x y : El p r) : dNe (prF x) (prF y) = some (.bl (!decide (x = y))) := by
  rw [← dec_pr]
  exact ne_pair _ _ _ _
theorem prF_zero : prF (0 : El p r) = .tup [.int 0, .int 0] := by
  unfold prF
  rw [zero_a, zero_b]
  have e : ((0 : Fin p)).val = 0 := by simp
  rw [e] <;> rfl
theorem one_val [g : Good p r] : ((1 : Fin p)).val = 1 := by
  have h3 : ((1 : Fin p)).val = 1 % p := rfl
  have h5 : 1 % p = 1 := Nat.mod_eq_of_lt (by have := g.five; omega)
  omega
theorem prF_one [g : Good p r] : prF (1 : El p r) = .tup [.int 1, .int 0] := by
  unfold prF
  rw [one_a, one_b]
  have e : ((0 : Fin p)).val = 0 := by simp
  have e1 := one_val (p := p) (r := r)
  rw [e, e1] <;> rfl
theorem mod_p (i : Int) : dMod (.int i) (.int (p : Int)) = some (.int (i % p)) := by
  unfold dMod
  exact if_pos ppi
theorem mulOk_l {i j : Int} (h : i.natAbs < 2 ^ 64) : dMul (.int i) (.int j) = some (.int (i * j)) := by
  unfold dMul
  exact if_pos (.inl h)
theorem mulOk_r {i j : Int} (h : j.natAbs < 2 ^ 64) : dMul (.int i) (.int j) = some (.int (i * j)) := by
  unfold dMul
  exact if_pos (.inr (.inl h))
theorem mul_v (h97 : p ≤ 97) (i : Int) (b : Fin p) : dMul (.int i) (.int (b.val : Int)) = some (.int (i * b.val)) := mulOk_r (by have := b.isLt; omega)
theorem mul_lv (h97 : p ≤ 97) (i : Int) (b : Fin p) : dMul (.int (b.val : Int)) (.int i) = some (.int (b.val * i)) := mulOk_l (by have := b.isLt; omega)
def fldF (p r : Nat) : List (Str × D) := [("p", .int (p : Int)), ("rest", .int (r : Int)), ("_inverses", .lst ((invs (p : Int)).map .int))]
theorem fld_p : dFld "Field" "p" (.obj "Field" (fldF p r)) = some (.int (p : Int)) := rfl
theorem fld_rest : dFld "Field" "rest" (.obj "Field" (fldF p r)) = some (.int (r : Int)) := rfl
theorem fld_inv : dFld "Field" "_inverses" (.obj "Field" (fldF p r)) = some (.lst ((invs (p : Int)).map .int)) := rfl
theorem fldF_no {m : Str} (h1 : m ≠ "p") (h2 : m ≠ "rest") (h3 : m ≠ "_inverses") : (fldF p r).lookup m = none := by
  unfold fldF
  have e1 : (m == ("p" : Str)) = false := by simpa using h1
  have e2 : (m == ("rest" : Str)) = false := by simpa using h2
  have e3 : (m == ("_inverses" : Str)) = false := by simpa using h3
  simp only [List.lookup_cons, e1, e2, e3, List.lookup_nil]
theorem no_plus : List.lookup ("plus" : Str) (fldF p r) = none := by rfl
theorem no_minus : List.lookup ("minus" : Str) (fldF p r) = none := by rfl
theorem no_times : List.lookup ("times" : Str) (fldF p r) = none := by rfl
theorem no_scaled : List.lookup ("scaled" : Str) (fldF p r) = none := by rfl
theorem no_number : List.lookup ("number" : Str) (fldF p r) = none := by rfl
theorem no_inverse : List.lookup ("inverse" : Str) (fldF p r) = none := by rfl
theorem no_over : List.lookup ("over" : Str) (fldF p r) = none := by rfl
theorem no_power : List.lookup ("power" : Str) (fldF p r) = none := by rfl
theorem no_holds : List.lookup ("holds" : Str) (fldF p r) = none := by rfl
theorem no_members : List.lookup ("members" : Str) (fldF p r) = none := by rfl
theorem no_turned : List.lookup ("turned" : Str) (fldF p r) = none := by rfl
theorem no_is_square : List.lookup ("is_square" : Str) (fldF p r) = none := by rfl
theorem no_root : List.lookup ("root" : Str) (fldF p r) = none := by rfl
/-- the table of inverses -/
theorem invs_len [g : Good p r] : (invs (p : Int)).length = p := by
  unfold invs
  rw [invAt_len]
  have := g.five
  omega
theorem inv_ix [g : Good p r] (a : Fin p) : dIx (.lst ((invs (p : Int)).map .int)) (.int (a.val : Int)) = some (.int ((fi a).val : Int)) := by
  have hl := invs_len (p := p) (r := r)
  have hlt : a.val < (invs (p : Int)).length := by rw [hl]; exact a.isLt
  have e : (invs (p : Int))[a.val]? = some ((invs (p : Int))[a.val]) := List.getElem?_eq_getElem hlt
  have e2 : iv p a.val = (invs (p : Int))[a.val] := by
    unfold iv
    rw [e] <;> rfl
  have e3 : ((fi a).val : Int) = iv p a.val := by
    show ((toF (p := p) (iv p a.val)).val : Int) = _
    rw [toF_val]
    by_cases h0 : a.val = 0
    · rw [h0, g.iv0] <;> simp
    · obtain ⟨h1, h2, _⟩ := g.iv a.isLt h0
      exact Int.emod_eq_of_lt h1 h2
  rw [e3, e2]
  show L2.atI _ _ = _
  rw [atI_map]
  have hi : L2.ixN (invs (p : Int)).length (a.val : Int) = some a.val := by
    unfold L2.ixN
    rw [if_pos (by omega), if_pos (by omega)] <;> simp
  unfold L2.atI
  rw [hi]
  show (invs (p : Int))[a.val]?.map D.int = _
  rw [e] <;> rfl
end
end Fq
set_option Elab.async false
set_option linter.all false
set_option maxRecDepth 100000
namespace Pd
/-! ### reading semantics: small tools -/
def nfB : Sl → Bool
  | .ow true _ => false
  | _ => true
theorem nfB_un : nfB .un = true := rfl
theorem nfB_sh (d : D) : nfB (.sh d) = true := rfl
theorem nfB_ow (h : Hc) : nfB (.ow false h) = true := rfl
theorem setN_if (i : Nat) (d : D) (e : En) : setN i d e = (match e[i]? with
    | some s => if nfB s = true then some (e.set i (.sh d)) else none
    | none => none) := by
  unfold setN
  cases e[i]? with
  | none => rfl
  | some s =>
    cases s with
    | un => rfl
    | sh d => rfl
    | ow b h => cases b <;> rfl
theorem sPar3_ok {i j k : Nat} {f : M (List D)} {e e2 : En} {x y z : D} {s1 s2 s3 : Sl} (hf : f e = some ([x, y, z], e2)) (h1 : e2[i]? = some s1) (h2 : e2[j]? = some s2) (h3 : e2[k]? = some s3) (n1 : nfB s1 = true) (n2 : nfB s2 = true) (n3 : nfB s3 = true) :
    sPar3 i j k f e = some (.nx (((e2.set i (.sh x)).set j (.sh y)).set k (.sh z))) := by
  unfold sPar3
  rw [hf]
  simp only [h1, h2, h3]
  rcases s1 with _ | _ | ⟨_ | _, _⟩ <;> rcases s2 with _ | _ | ⟨_ | _, _⟩ <;> rcases s3 with _ | _ | ⟨_ | _, _⟩ <;> first | rfl | exact Bool.noConfusion (show false = true from n1) | exact Bool.noConfusion (show false = true from n2) | exact Bool.noConfusion (show false = true from n3)
theorem sPar_ok {i j : Nat} {f g : M D} {e e1 e2 : En} {x y : D} {s1 s2 : Sl} (hf : f e = some (x, e1)) (hg : g e1 = some (y, e2)) (h1 : e2[i]? = some s1) (h2 : e2[j]? = some s2) (n1 : nfB s1 = true) (n2 : nfB s2 = true) :
    sPar i j f g e = some (.nx ((e2.set i (.sh x)).set j (.sh y))) := by
  unfold sPar
  rw [hf]
  simp only [hg, h1, h2]
  rcases s1 with _ | _ | ⟨_ | _, _⟩ <;> rcases s2 with _ | _ | ⟨_ | _, _⟩ <;> first | rfl | exact Bool.noConfusion (show false = true from n1) | exact Bool.noConfusion (show false = true from n2)
theorem sAsgH_if (r : M (List D)) (i : Nat) (e : En) : sAsgH r i e = (match r e with
  | some (ds, e1) => (match e1[i]? with
    | some s => if nfB s = true then some (.nx (e1.set i (.ow false (.lst ds)))) else none
    | none => none)
  | none => none) := by
  unfold sAsgH
  cases r e with
  | none => rfl
  | some p =>
    obtain ⟨ds, e1⟩ := p
    dsimp only
    cases e1[i]? with
    | none => rfl
    | some s =>
      cases s with
      | un => rfl
      | sh d => rfl
      | ow b h => cases b <;> rfl
theorem for_ind {set : D → En → Option En} {m : SM} (R : Nat → En → Prop) : ∀ (ds : List D) (e : En) (k : Nat), R k e → (∀ i d e, ds[i]? = some d → R (k + i) e → ∃ e1 e2, set d e = some e1 ∧ (m e1 = some (.nx e2) ∨ m e1 = some (.ct e2)) ∧ R (k + i + 1) e2) → ∃ e', sForL set m ds e = some (.nx e') ∧ R (k + ds.length) e'
  | [], e, k, h0, _ => ⟨e, rfl, h0⟩
  | d :: ds, e, k, h0, h => by
    obtain ⟨e1, e2, h1, h2, h3⟩ := h 0 d e rfl h0
    obtain ⟨e', h4, h5⟩ := for_ind R ds e2 (k + 1) h3 fun i d e hd hr => by
      have e0 : k + 1 + i = k + (i + 1) := by omega
      rw [e0] at hr ⊢
      exact h (i + 1) d e hd hr
    refine ⟨e', ?_, ?_⟩
    · rw [← h4]
      show (match set d e with | none => none | some e1 => _) = _
      rw [h1]
      rcases h2 with h2 | h2
      · simp only [h2]
      · simp only [h2]
    · have e0 : k + (d :: ds).length = k + 1 + ds.length := by rw [List.length_cons]; omega
      rw [e0]
      exact h5
theorem rngD_get {lo : Int} {n i : Nat} {d : D} (h : (rngD lo n)[i]? = some d) : i < n ∧ d = .int (lo + i) := by
  unfold rngD at h
  rw [List.getElem?_map] at h
  cases q : (List.range n)[i]? with
  | none => rw [q] at h; cases h
  | some j =>
    rw [q] at h
    have h1 := List.getElem?_eq_some_iff.mp q
    obtain ⟨h2, h3⟩ := h1
    rw [List.length_range] at h2
    have h4 : j = i := by rw [← h3]; simp
    subst h4
    exact ⟨h2, (Option.some.inj h).symm⟩
theorem rngD_len (lo : Int) (n : Nat) : (rngD lo n).length = n := by
  unfold rngD
  simp
theorem mRng1_ok {f : M D} {e e1 : En} {n : Int} (h : f e = some (.int n, e1)) (h1 : -(2 ^ 62) < n) (h2 : n < 2 ^ 62) : mRng1 f e = some (rngD 0 n.toNat, e1) := by
  unfold mRng1 bnd
  rw [h]
  have h3 : n.natAbs < 4611686018427387904 := by omega
  exact if_pos h3
theorem mRng2_ok {f g : M D} {e e1 e2 : En} {m n : Int} (h : f e = some (.int m, e1)) (hg : g e1 = some (.int n, e2)) (h1 : -(2 ^ 62) < m) (h2 : m < 2 ^ 62) (h3 : -(2 ^ 62) < n) (h4 : n < 2 ^ 62) : mRng2 f g e = some (rngD m (n - m).toNat, e2) := by
  unfold mRng2 bnd
  rw [h]
  simp only [hg]
  have h5 : m.natAbs < 4611686018427387904 := by omega
  have h6 : n.natAbs < 4611686018427387904 := by omega
  exact if_pos ⟨h5, h6⟩
theorem sFor_ok {it : M (List D)} {set : D → En → Option En} {m : SM} {e e1 : En} {ds : List D} (h : it e = some (ds, e1)) : sFor it set m e = sForL set m ds e1 := by
  unfold sFor
  rw [h]
theorem sSeq_nx {m n : SM} {e e1 : En} (h : m e = some (.nx e1)) : sSeq m n e = n e1 := by
  unfold sSeq
  rw [h]
theorem log2_small {n : Nat} (h : n < 2 ^ 60) : n.log2 < 9000 := by
  by_cases h0 : n = 0
  · subst h0; decide
  · have := (Nat.log2_lt h0).mpr h
    omega
theorem fdiv_ok {i j : Int} (h : 0 < j) (h2 : j < 2 ^ 60) : dFdiv (.int i) (.int j) = some (.int (i / j)) := by
  unfold dFdiv
  exact if_pos ⟨h, log2_small (by omega)⟩
theorem dmod_ok {i j : Int} (h : 0 < j) : dMod (.int i) (.int j) = some (.int (i % j)) := by
  unfold dMod
  exact if_pos h
theorem eq_int (i j : Int) : dEq (.int i) (.int j) = some (.bl (decide (i = j))) := by
  unfold dEq dEqB
  have e (k : Int) : shOk (.int k) = true := rfl
  rw [e, e] <;> simp [dEqv]
theorem ne_int (i j : Int) : dNe (.int i) (.int j) = some (.bl (!decide (i = j))) := by
  unfold dNe dEqB
  have e (k : Int) : shOk (.int k) = true := rfl
  rw [e, e] <;> simp [dEqv]
/-- an item by a number -/
theorem ix_nat {ds : List D} {i : Int} {d : D} (h0 : 0 ≤ i) (h : ds[i.toNat]? = some d) : dIx (.lst ds) (.int i) = some d := by
  show L2.atI ds i = _
  have hl : i.toNat < ds.length := (List.getElem?_eq_some_iff.mp h).1
  have e2 := (List.getElem?_eq_some_iff.mp h).2
  have e1 : i < (ds.length : Int) := by omega
  unfold L2.atI L2.ixN
  simp [h0, e1, e2]
theorem ix_natT {ds : List D} {i : Int} {d : D} (h0 : 0 ≤ i) (h : ds[i.toNat]? = some d) : dIx (.tup ds) (.int i) = some d := ix_nat h0 h
end Pd
set_option Elab.async false
set_option linter.all false
set_option maxRecDepth 100000
namespace Pd
open PySem L2
/-! ### one step of reading, applied forms only -/
section
variable {α β : Type} (e : En)
theorem ret_ap (a : α) : ret a e = some (a, e) := rfl
theorem bnd_ap (f : M α) (g : α → M β) : bnd f g e = (match f e with | some (a, e1) => g a e1 | none => none) := rfl
theorem lft_ap (o : Option α) : lft o e = (match o with | some a => some (a, e) | none => none) := rfl
theorem rdv_ap (i : Nat) : rdv i e = (match e[i]? with
  | some (.sh d) => some (d, e)
  | some (.ow false (.lst ds)) => some (.lst ds, e.set i (.sh (.lst ds)))
  | some (.ow false (.ins c fs)) => some (.obj c fs, e.set i (.sh (.obj c fs)))
  | _ => none) := rfl
theorem bin_ap (o : D → D → Option D) (f g : M D) : bin o f g e = (match f e with
  | some (x, e1) => (match g e1 with
    | some (y, e2) => (match o x y with | some d => some (d, e2) | none => none)
    | none => none)
  | none => none) := by
  unfold bin bnd lft
  cases f e with
  | none => rfl
  | some x0 =>
    obtain ⟨a0, e1⟩ := x0
    try dsimp only
    cases g e1 with
    | none => rfl
    | some x1 =>
      obtain ⟨a1, e2⟩ := x1
      try dsimp only
      cases (o a0 a1) with
      | none => rfl
      | some x2 =>
        try dsimp only
        all_goals rfl
theorem una_ap (o : D → Option D) (f : M D) : una o f e = (match f e with
  | some (x, e1) => (match o x with | some d => some (d, e1) | none => none)
  | none => none) := by
  unfold una bnd lft
  cases f e with
  | none => rfl
  | some x0 =>
    obtain ⟨a0, e1⟩ := x0
    try dsimp only
    cases (o a0) with
    | none => rfl
    | some x1 =>
      try dsimp only
      all_goals rfl
theorem lNil_ap : lNil e = some ([], e) := rfl
theorem lCons_ap (f : M D) (r : M (List D)) : lCons f r e = (match f e with
  | some (x, e1) => (match r e1 with | some (xs, e2) => some (x :: xs, e2) | none => none)
  | none => none) := by
  unfold lCons bnd ret
  cases f e with
  | none => rfl
  | some x0 =>
    obtain ⟨a0, e1⟩ := x0
    try dsimp only
    cases r e1 with
    | none => rfl
    | some x1 =>
      obtain ⟨a1, e2⟩ := x1
      try dsimp only
      all_goals rfl
theorem mTup_ap (r : M (List D)) : mTup r e = (match r e with | some (xs, e1) => some (.tup xs, e1) | none => none) := by
  unfold mTup bnd ret
  cases r e with
  | none => rfl
  | some x0 =>
    obtain ⟨a0, e1⟩ := x0
    try dsimp only
    all_goals rfl
theorem mLst_ap (r : M (List D)) : mLst r e = (match r e with | some (xs, e1) => some (.lst xs, e1) | none => none) := by
  unfold mLst bnd ret
  cases r e with
  | none => rfl
  | some x0 =>
    obtain ⟨a0, e1⟩ := x0
    try dsimp only
    all_goals rfl
theorem asB_ap (f : M D) : asB f e = (match f e with
  | some (.bl r, e1) => some (r, e1)
  | _ => none) := by
  unfold asB bnd ret
  cases f e with
  | none => rfl
  | some p => obtain ⟨d, e1⟩ := p; cases d <;> rfl
theorem asI_ap (f : M D) : asI f e = (match f e with
  | some (.int i, e1) => some (some i, e1)
  | _ => none) := by
  unfold asI bnd ret
  cases f e with
  | none => rfl
  | some p => obtain ⟨d, e1⟩ := p; cases d <;> rfl
theorem asTru_ap (f : M D) : asTru f e = (match f e with
  | some (d, e1) => (match truD d with | some r => some (r, e1) | none => none)
  | none => none) := by
  unfold asTru bnd lft
  cases f e with
  | none => rfl
  | some x0 =>
    obtain ⟨a0, e1⟩ := x0
    try dsimp only
    cases (truD a0) with
    | none => rfl
    | some x1 =>
      try dsimp only
      all_goals rfl
theorem mAnd_ap (p q : M Bool) : mAnd p q e = (match p e with
  | some (r, e1) => if r = true then q e1 else some (false, e1)
  | none => none) := by
  unfold mAnd bnd ret
  cases p e with
  | none => rfl
  | some x => obtain ⟨d, e1⟩ := x; cases d <;> rfl
theorem mOr_ap (p q : M Bool) : mOr p q e = (match p e with
  | some (r, e1) => if r = true then some (true, e1) else q e1
  | none => none) := by
  unfold mOr bnd ret
  cases p e with
  | none => rfl
  | some x => obtain ⟨d, e1⟩ := x; cases d <;> rfl
theorem mNot_ap (p : M Bool) : mNot p e = (match p e with
  | some (r, e1) => some (!r, e1)
  | none => none) := by
  unfold mNot bnd ret
  cases p e with
  | none => rfl
  | some x0 =>
    obtain ⟨a0, e1⟩ := x0
    try dsimp only
    all_goals rfl
theorem vAnd_ap (f g : M D) : vAnd f g e = (match f e with
  | some (.bl r, e1) => if r = true then g e1 else some (.bl false, e1)
  | _ => none) := by
  unfold vAnd asB bnd ret
  cases f e with
  | none => rfl
  | some x => obtain ⟨d, e1⟩ := x; cases d <;> first | rfl | (rename_i r; cases r <;> rfl)
theorem vOr_ap (f g : M D) : vOr f g e = (match f e with
  | some (.bl r, e1) => if r = true then some (.bl true, e1) else g e1
  | _ => none) := by
  unfold vOr asB bnd ret
  cases f e with
  | none => rfl
  | some x => obtain ⟨d, e1⟩ := x; cases d <;> first | rfl | (rename_i r; cases r <;> rfl)
theorem vNot_ap (f : M D) : vNot f e = (match f e with
  | some (.bl r, e1) => some (.bl (!r), e1)
  | _ => none) := by
  unfold vNot asB bnd ret
  cases f e with
  | none => rfl
  | some x => obtain ⟨d, e1⟩ := x; cases d <;> rfl
theorem mIf_ap (p : M Bool) (f g : M α) : mIf p f g e = (match p e with
  | some (r, e1) => if r = true then f e1 else g e1
  | none => none) := by
  unfold mIf bnd
  cases p e with
  | none => rfl
  | some x => obtain ⟨d, e1⟩ := x; cases d <;> rfl
theorem chn_ap (o o' : D → D → Option D) (f g h : M D) : chn o o' f g h e = (match f e with
  | some (x, e1) => (match g e1 with
    | some (y, e2) => (match o x y with
      | some (.bl true) => (match h e2 with
        | some (w, e3) => (match o' y w with | some d => some (d, e3) | none => none)
        | none => none)
      | some (.bl false) => some (.bl false, e2)
      | _ => none)
    | none => none)
  | none => none) := by
  unfold chn bnd lft ret
  cases f e with
  | none => rfl
  | some x =>
    obtain ⟨x, e1⟩ := x
    dsimp only
    cases g e1 with
    | none => rfl
    | some y =>
      obtain ⟨y, e2⟩ := y
      dsimp only
      cases o x y with
      | none => rfl
      | some z =>
        cases z <;> try rfl
        rename_i r
        cases r
        · rfl
        · dsimp only
          cases h e2 with
          | none => rfl
          | some w => obtain ⟨w, e3⟩ := w; dsimp only; cases o' y w <;> rfl
theorem mCall_ap (fs : FS) (l : M (List D)) : mCall fs l e = (match l e with
  | some (ds, e1) => (match back (fs (ds.map .sh)) with | some d => some (d, e1) | none => none)
  | none => none) := by
  unfold mCall bnd lft
  cases l e with
  | none => rfl
  | some x0 =>
    obtain ⟨a0, e1⟩ := x0
    try dsimp only
    cases (back (fs (a0.map .sh))) with
    | none => rfl
    | some x1 =>
      try dsimp only
      all_goals rfl
theorem mCallN_ap (fs : FS) (l : M (List D)) : mCallN fs l e = (match l e with
  | some (ds, e1) => (match backN (fs (ds.map .sh)) with | some d => some (d, e1) | none => none)
  | none => none) := by
  unfold mCallN bnd lft
  cases l e with
  | none => rfl
  | some x0 =>
    obtain ⟨a0, e1⟩ := x0
    try dsimp only
    cases (backN (fs (a0.map .sh))) with
    | none => rfl
    | some x1 =>
      try dsimp only
      all_goals rfl
theorem slf_ap (c m : Str) (f : M D) : slf c m f e = (match f e with
  | some (.obj c' fs, e1) => if c' = c ∧ fs.lookup m = none then some (.obj c' fs, e1) else none
  | _ => none) := by
  unfold slf bnd ret
  cases f e with
  | none => rfl
  | some x =>
    obtain ⟨d, e1⟩ := x
    cases d <;> try rfl
    dsimp only
    split <;> rfl
theorem mMeth_ap (c m : Str) (fs : FS) (s : M D) (l : M (List D)) : mMeth c m fs s l e = (match slf c m s e with
  | some (o, e1) => (match l e1 with
    | some (ds, e2) => (match back (fs ((o :: ds).map .sh)) with | some d => some (d, e2) | none => none)
    | none => none)
  | none => none) := by
  unfold mMeth bnd lft
  cases slf c m s e with
  | none => rfl
  | some x0 =>
    obtain ⟨a0, e1⟩ := x0
    try dsimp only
    cases l e1 with
    | none => rfl
    | some x1 =>
      obtain ⟨a1, e2⟩ := x1
      try dsimp only
      cases (back (fs ((a0 :: a1).map .sh))) with
      | none => rfl
      | some x2 =>
        try dsimp only
        all_goals rfl
theorem mMethN_ap (c m : Str) (fs : FS) (s : M D) (l : M (List D)) : mMethN c m fs s l e = (match slf c m s e with
  | some (o, e1) => (match l e1 with
    | some (ds, e2) => (match backN (fs ((o :: ds).map .sh)) with | some d => some (d, e2) | none => none)
    | none => none)
  | none => none) := by
  unfold mMethN bnd lft
  cases slf c m s e with
  | none => rfl
  | some x0 =>
    obtain ⟨a0, e1⟩ := x0
    try dsimp only
    cases l e1 with
    | none => rfl
    | some x1 =>
      obtain ⟨a1, e2⟩ := x1
      try dsimp only
      cases (backN (fs ((a0 :: a1).map .sh))) with
      | none => rfl
      | some x2 =>
        try dsimp only
        all_goals rfl
theorem mMake_ap (c : Str) (fs : FS) (l : M (List D)) : mMake c fs l e = (match l e with
  | some (ds, e1) => (match backI c (fs (.ow true (.ins c []) :: ds.map .sh)) with | some d => some (d, e1) | none => none)
  | none => none) := by
  unfold mMake bnd lft
  cases l e with
  | none => rfl
  | some x0 =>
    obtain ⟨a0, e1⟩ := x0
    try dsimp only
    cases (backI c (fs (.ow true (.ins c []) :: a0.map .sh))) with
    | none => rfl
    | some x1 =>
      try dsimp only
      all_goals rfl
theorem mCut_ap (f : M D) (lo hi : M (Option Int)) : mCut f lo hi e = (match f e with
  | some (x, e1) => (match lo e1 with
    | some (l, e2) => (match hi e2 with
      | some (u, e3) => (match x with
        | .lst ds => some (cutD ds l u, e3)
        | .scr ns => some ((cutD ns l u).map D.int, e3)
        | _ => none)
      | none => none)
    | none => none)
  | none => none) := by
  unfold mCut bnd ret
  cases f e with
  | none => rfl
  | some x =>
    obtain ⟨x, e1⟩ := x
    dsimp only
    cases lo e1 with
    | none => rfl
    | some l =>
      obtain ⟨l, e2⟩ := l
      dsimp only
      cases hi e2 with
      | none => rfl
      | some u => obtain ⟨u, e3⟩ := u; cases x <;> rfl
theorem mSeq_ap (f : M D) : mSeq f e = (match f e with
  | some (.lst ds, e1) => some (ds, e1)
  | some (.tup ds, e1) => some (ds, e1)
  | some (.scr ns, e1) => some (ns.map D.int, e1)
  | _ => none) := by
  unfold mSeq bnd
  cases f e with
  | none => rfl
  | some x => obtain ⟨d, e1⟩ := x; cases d <;> rfl
theorem lenh_ap (i : Nat) : lenh i e = (match e[i]? with
  | some (.ow _ (.lst ds)) => some (.int (ds.length : Nat), e)
  | _ => none) := by
  unfold lenh hotL
  cases e[i]? with
  | none => rfl
  | some s => rcases s with _ | _ | ⟨_, _ | _ | _ | _⟩ <;> rfl
theorem mRng1_ap (f : M D) : mRng1 f e = (match f e with
  | some (.int j, e1) => if j.natAbs < 4611686018427387904 then some (rngD 0 j.toNat, e1) else none
  | _ => none) := by
  unfold mRng1 bnd
  cases f e with
  | none => rfl
  | some x => obtain ⟨d, e1⟩ := x; cases d <;> rfl
theorem mRng2_ap (f g : M D) : mRng2 f g e = (match f e with
  | some (.int i, e1) => (match g e1 with
    | some (.int j, e2) => if i.natAbs < 4611686018427387904 ∧ j.natAbs < 4611686018427387904 then some (rngD i (j - i).toNat, e2) else none
    | _ => none)
  | some (_, e1) => (match g e1 with
    | _ => none)
  | none => none) := by
  unfold mRng2 bnd
  cases f e with
  | none => rfl
  | some x =>
    obtain ⟨d, e1⟩ := x
    dsimp only
    cases hg : g e1 with
    | none => cases d <;> simp [hg]
    | some y => obtain ⟨y, e2⟩ := y; cases d <;> cases y <;> simp [hg]
/-! statements -/
variable (m n : SM)
theorem sSkip_ap : sSkip e = some (.nx e) := rfl
theorem sSeq_ap : sSeq m n e = (match m e with
  | some (.nx e1) => n e1
  | r => r) := rfl
theorem sAsg_ap (f : M D) (set : D → En → Option En) : sAsg f set e = (match f e with
  | some (d, e1) => (match set d e1 with
    | some e2 => some (.nx e2)
    | none => none)
  | none => none) := rfl
theorem sRet_ap (f : M D) : sRet f e = (match f e with
  | some (d, e1) => some (.rt (.sh d) e1)
  | none => none) := rfl
theorem sRetN_ap : sRetN e = some (.rt (.sh .non) e) := rfl
theorem sIf_ap (p : M Bool) : sIf p m n e = (match p e with
  | some (r, e1) => if r = true then m e1 else n e1
  | none => none) := rfl
theorem sRaise_ap (c : Str) : sRaise c e = some (.ex c e) := rfl
theorem sDrop_ap (f : M D) : sDrop f e = (match f e with
  | some (_, e1) => some (.nx e1)
  | none => none) := rfl
theorem sBk_ap : sBk e = some (.bk e) := rfl
theorem sCt_ap : sCt e = some (.ct e) := rfl
theorem sAug_ap (i : Nat) (o : D → D → Option D) (f : M D) : sAug i o f e = (match e[i]? with
  | some (.sh x) => (match f e with
    | some (y, e1) => (match o x y with
      | some z => some (.nx (e1.set i (.sh z)))
      | none => none)
    | none => none)
  | _ => none) := rfl
theorem sFldS_ap (i : Nat) (c x : Str) (f : M D) : sFldS i c x f e = (match f e with
  | some (d, e1) => (match hotI e1 i c, e1[i]? with
    | some fs, some (.ow b _) => if fs.length < 900 then some (.nx (e1.set i (.ow b (.ins c (putD x d fs))))) else none
    | _, _ => none)
  | none => none) := rfl
theorem hotI_ap (i : Nat) (c : Str) : hotI e i c = (match e[i]? with
  | some (.ow _ (.ins c' fs)) => if c' = c then some fs else none
  | _ => none) := rfl
theorem hotL_ap (i : Nat) : hotL e i = (match e[i]? with
  | some (.ow _ (.lst ds)) => some ds
  | _ => none) := rfl
theorem ixh_ap (i : Nat) (g : M D) : ixh i g e = (match hotRead i g e with
  | some (p, e1) => (match dIx (.lst p.2) p.1 with | some d => some (d, e1) | none => none)
  | none => none) := by
  unfold ixh bnd lft
  cases hotRead i g e with
  | none => rfl
  | some x0 =>
    obtain ⟨a0, e1⟩ := x0
    try dsimp only
    cases (dIx (.lst a0.2) a0.1) with
    | none => rfl
    | some x1 =>
      try dsimp only
      all_goals rfl
theorem hotRead_ap {γ : Type} (i : Nat) (g : M γ) : hotRead i g e = (match hotL e i with
  | some _ => (match g e with
    | some (y, e1) => (match hotL e1 i with
      | some ds => some ((y, ds), e1)
      | none => none)
    | none => none)
  | none => none) := rfl
theorem sApp_ap (i : Nat) (f : M D) : sApp i f e = (match hotRead i f e with
  | some ((d, ds), e1) => (match e1[i]? with
    | some (.ow b _) => if ds.length < 1000000 then some (.nx (e1.set i (.ow b (.lst (ds ++ [d]))))) else none
    | _ => none)
  | none => none) := rfl
theorem fnS_ap (N : Nat) (b : SM) (as : En) : fnS N b as = (match b (as ++ List.replicate (N - as.length) .un) with
  | some (.nx e) => fin as (.rt (.sh .non)) e
  | some (.rt r e) => fin as (.rt r) e
  | some (.ex c e) => fin as (.ex c) e
  | _ => none) := rfl
theorem fin_ap (as : En) (r : Res) : fin as r e = if as.length ≤ e.length then some (r, outs as e) else none := rfl
end
/-! operations on ints -/
theorem add_ii (i j : Int) : dAdd (.int i) (.int j) = some (.int (i + j)) := rfl
theorem sub_ii (i j : Int) : dSub (.int i) (.int j) = some (.int (i - j)) := rfl
theorem neg_i (i : Int) : dNeg (.int i) = some (.int (-i)) := rfl
theorem int_i (i : Int) : dInt (.int i) = some (.int i) := rfl
theorem int_b (b : Bool) : dInt (.bl b) = some (.int (if b then 1 else 0)) := rfl
theorem abs_i (i : Int) : dAbs (.int i) = some (.int (if i < 0 then -i else i)) := rfl
theorem lt_ii (i j : Int) : dLt (.int i) (.int j) = some (.bl (decide (i < j))) := rfl
theorem le_ii (i j : Int) : dLe (.int i) (.int j) = some (.bl (decide (i ≤ j))) := rfl
theorem gt_ii (i j : Int) : dGt (.int i) (.int j) = some (.bl (decide (j < i))) := rfl
theorem ge_ii (i j : Int) : dGe (.int i) (.int j) = some (.bl (decide (j ≤ i))) := rfl
theorem isN_non : dIsN .non = some (.bl true) := rfl
theorem isN_int (i : Int) : dIsN (.int i) = some (.bl false) := rfl
theorem isN_tup (ds : List D) : dIsN (.tup ds) = some (.bl false) := rfl
theorem isN_lst (ds : List D) : dIsN (.lst ds) = some (.bl false) := rfl
theorem isN_obj (c : Str) (fs : List (Str × D)) : dIsN (.obj c fs) = some (.bl false) := rfl
theorem notN_non : dNotN .non = some (.bl false) := rfl
theorem notN_tup (ds : List D) : dNotN (.tup ds) = some (.bl true) := rfl
theorem notN_int (i : Int) : dNotN (.int i) = some (.bl true) := rfl
theorem len_lst (ds : List D) : dLen (.lst ds) = some (.int (ds.length : Nat)) := rfl
theorem len_tup (ds : List D) : dLen (.tup ds) = some (.int (ds.length : Nat)) := rfl
theorem len_scr (ns : List Int) : dLen (.scr ns) = some (.int (ns.length : Nat)) := rfl
theorem tru_non : truD .non = some false := rfl
theorem tru_bl (b : Bool) : truD (.bl b) = some b := rfl
theorem tru_int (i : Int) : truD (.int i) = some (i != 0) := rfl
theorem tru_lst (ds : List D) : truD (.lst ds) = some (!ds.isEmpty) := rfl
theorem tru_tup (ds : List D) : truD (.tup ds) = some (!ds.isEmpty) := rfl
/-! comprehensions whose parts change nothing -/
theorem lc_pure {vs : List Nat} {set : D → En → Option En} {tst : M Bool} {elt : M D} (P : D → Bool) (g : D → D) (e : En) : ∀ ds : List D, (∀ d ∈ ds, ∃ e1, set d e = some e1 ∧ tst e1 = some (P d, e1) ∧ (P d = true → elt e1 = some (g d, e1)) ∧ wipeE e1 vs = e) → lcLoop vs set tst elt ds e = some ((ds.filter P).map g, e)
  | [], _ => rfl
  | d :: ds, h => by
    obtain ⟨e1, h1, h2, h3, h4⟩ := h d List.mem_cons_self
    have ih := lc_pure (vs := vs) (set := set) (tst := tst) (elt := elt) P g e ds fun x hx => h x (List.mem_cons_of_mem _ hx)
    unfold lcLoop
    rw [h1]
    simp only [h2]
    by_cases q : P d = true
    · rw [if_pos q, h3 q]
      simp only [h4, ih]
      rw [List.filter_cons_of_pos q] <;> rfl
    · rw [if_neg q, h4, ih, List.filter_cons_of_neg q]
theorem lcS_pure {it : M (List D)} {vs : List Nat} {set : D → En → Option En} {tst : M Bool} {elt : M D} (P : D → Bool) (g : D → D) {e0 e : En} {ds : List D} (hi : it e0 = some (ds, e)) (hw : wipeE e vs = e) (hm : mrg vs e e = e) (hl : ds.length ≤ 1000000)
    (h : ∀ d ∈ ds, ∃ e1, set d e = some e1 ∧ tst e1 = some (P d, e1) ∧ (P d = true → elt e1 = some (g d, e1)) ∧ wipeE e1 vs = e) : lcS it vs set tst elt e0 = some ((ds.filter P).map g, e) := by
  unfold lcS
  rw [bnd_ap, hi]
  simp only [if_pos hl, hw, lc_pure P g e ds h, hm]
/-- the same, without a test, the variable's slot unknown after -/
theorem lcS_map {it : M (List D)} {vs : List Nat} {set : D → En → Option En} {elt : M D} (g : D → D) {e0 e : En} {ds : List D} (hi : it e0 = some (ds, e)) (hw : wipeE e vs = e) (hm : mrg vs e e = e) (hl : ds.length ≤ 1000000)
    (h : ∀ d ∈ ds, ∃ e1, set d e = some e1 ∧ elt e1 = some (g d, e1) ∧ wipeE e1 vs = e) : lcS it vs set tYesM elt e0 = some (ds.map g, e) := by
  have q := lcS_pure (tst := tYesM) (elt := elt) (fun _ => true) g hi hw hm hl fun d hd => by
    obtain ⟨e1, h1, h2, h3⟩ := h d hd
    exact ⟨e1, h1, rfl, fun _ => h2, h3⟩
  rw [q, List.filter_eq_self.mpr (fun _ _ => rfl)]
end Pd
set_option Elab.async false
set_option linter.all false
set_option maxRecDepth 100000
namespace Fq
open Lean.Grind Pd PySem
/-! ### x ^ p is the other root's -/
def isP (x : Nat × Nat) (a b : Nat) : Bool := decide (x.1 = a) && decide (x.2 = b)
def froB (p r : Nat) : Bool := isP (powN p r 7 (1, 0) (0, 1) p) 0 (p - 1) && ((List.range p).all fun k => isP (powN p r 7 (1, 0) (1, k) p) 1 ((p - k) % p) && isP (powN p r 7 (1, 0) (k, 0) p) k 0)
theorem primes_fro : (primes.all fun x => froB x.1 x.2) = true := by decide +kernel
section
variable {p r : Nat} [NeZero p] [g : GoodO p r]
def cj (x : El p r) : El p r := ⟨x.a, 0 - x.b⟩
theorem cj_mul (x y : El p r) : cj (x * y) = cj x * cj y := El.ext' (by show (x * y).a = x.a * y.a + rr p r * (0 - x.b) * (0 - y.b); rw [mul_a]; grind) (by show 0 - (x * y).b = x.a * (0 - y.b) + (0 - x.b) * y.a; rw [mul_b]; grind)
include g in
theorem pow_isP {x : Nat × Nat} {a b : Nat} (h : isP (powN p r 7 (1, 0) x p) a b = true) : elN (p := p) (r := r) x ^ p = elN (a, b) := by
  have e := elN_pow (p := p) (r := r) 7 (1, 0) x p
  have h97 := g.le97
  rw [powL_eq _ _ _ _ (by omega), elN_one] at e
  unfold isP at h
  simp only [Bool.and_eq_true, decide_eq_true_eq] at h
  have e2 : powN p r 7 (1, 0) x p = (a, b) := Prod.ext h.1 h.2
  rw [e2] at e
  rw [e]
  grind
theorem froB_ok : froB p r = true := List.all_eq_true.mp primes_fro (p, r) g.mem
theorem fro_sc (a : Fin p) : (⟨a, 0⟩ : El p r) ^ p = ⟨a, 0⟩ := by
  have h := froB_ok (p := p) (r := r)
  unfold froB at h
  simp only [Bool.and_eq_true] at h
  have h1 := List.all_eq_true.mp h.2 a.val (List.mem_range.mpr a.isLt)
  simp only [Bool.and_eq_true] at h1
  have h2 := pow_isP (r := r) h1.2
  have e : elN (p := p) (r := r) (a.val, 0) = ⟨a, 0⟩ := El.ext' (toF_self a) toF_zero
  rw [e] at h2
  exact h2
theorem toF_sub_p (k : Nat) (h : k ≤ p) : toF (p := p) (((p - k) % p : Nat) : Int) = 0 - toF (k : Int) := by
  rw [Int.natCast_emod, toF_mod, Int.natCast_sub h, toF_sub]
  have e : toF (p := p) (p : Int) = 0 := by
    rw [← toF_zero]
    exact toF_eq (by simp)
  rw [e]
theorem fro_t (a : Fin p) : (⟨1, a⟩ : El p r) ^ p = ⟨1, 0 - a⟩ := by
  have h := froB_ok (p := p) (r := r)
  unfold froB at h
  simp only [Bool.and_eq_true] at h
  have h1 := List.all_eq_true.mp h.2 a.val (List.mem_range.mpr a.isLt)
  simp only [Bool.and_eq_true] at h1
  have h2 := pow_isP (r := r) h1.1
  have e : elN (p := p) (r := r) (1, a.val) = ⟨1, a⟩ := El.ext' toF_one (toF_self a)
  have e2 : elN (p := p) (r := r) (1, (p - a.val) % p) = ⟨1, 0 - a⟩ := El.ext' toF_one (by
    show toF (((p - a.val) % p : Nat) : Int) = 0 - a
    rw [toF_sub_p _ (Nat.le_of_lt a.isLt), toF_self])
  rw [e, e2] at h2
  exact h2
theorem fro_w : (⟨0, 1⟩ : El p r) ^ p = ⟨0, 0 - 1⟩ := by
  have h := froB_ok (p := p) (r := r)
  unfold froB at h
  simp only [Bool.and_eq_true] at h
  have h2 := pow_isP (r := r) h.1
  have e : elN (p := p) (r := r) (0, 1) = ⟨0, 1⟩ := El.ext' toF_zero toF_one
  have h5 := g.five
  have e2 : elN (p := p) (r := r) (0, p - 1) = ⟨0, 0 - 1⟩ := El.ext' toF_zero (by
    show toF ((p - 1 : Nat) : Int) = 0 - 1
    have e3 : (p - 1 : Nat) = (p - 1) % p := (Nat.mod_eq_of_lt (by omega)).symm
    rw [e3, toF_sub_p 1 (by omega)]
    have e4 : toF (p := p) ((1 : Nat) : Int) = 1 := toF_one
    rw [e4])
  rw [e, e2] at h2
  exact h2
theorem fro (x : El p r) : x ^ p = cj x := by
  by_cases ha : x.a = 0
  · have e : x = (⟨x.b, 0⟩ : El p r) * ⟨0, 1⟩ := El.ext' (by rw [mul_a, ha]; simp only; grind) (by rw [mul_b]; simp only; grind)
    rw [e, npw_mul, fro_sc, fro_w, cj_mul]
    congr 1
    exact El.ext' rfl (by show (0 : Fin p) = 0 - 0; grind)
  · have h1 := fi_mul (r := r) ha
    have e : x = (⟨x.a, 0⟩ : El p r) * ⟨1, x.b * fi x.a⟩ := El.ext' (by rw [mul_a]; simp only; grind) (by rw [mul_b]; simp only; grind)
    rw [e, npw_mul, fro_sc, fro_t, cj_mul]
    congr 1
    exact El.ext' rfl (by show (0 : Fin p) = 0 - 0; grind)
end
end Fq
namespace Pd
open PySem L2
/-! ### lists of pairs of ints -/
def ptD (x : Int × Int) : D := .tup [.int x.1, .int x.2]
def ptP (x : Int × Int) : PyData := .tuple [.int x.1, .int x.2]
theorem toPy_pts : ∀ L : List (Int × Int), toPyL (L.map ptD) = some (L.map ptP)
  | [] => rfl
  | x :: L => by
    have ih := toPy_pts L
    rw [List.map_cons, List.map_cons]
    unfold toPyL
    have e : toPy (ptD x) = some (ptP x) := rfl
    rw [e, ih]
theorem lay_pts : ∀ L : List (Int × Int), PyData.canLayAll0 (L.map ptP) = true
  | [] => rfl
  | x :: L => by
    have ih := lay_pts L
    simp [PyData.canLayAll0, ih, ptP, PyData.canLay0]
theorem depth_pts : ∀ L : List (Int × Int), PyData.depthAll (L.map ptP) ≤ 1
  | [] => by decide
  | x :: L => by
    have ih := depth_pts L
    have e : PyData.depth (ptP x) = 1 := by rfl
    simp only [List.map_cons, PyData.depthAll, e]
    omega
theorem shOk_pts (L : List (Int × Int)) : shOk (.lst (L.map ptD)) = true := by
  have e : toPy (.lst (L.map ptD)) = some (.list (L.map ptP)) := by
    unfold toPy
    rw [toPy_pts]
  unfold shOk
  rw [e]
  have h1 := depth_pts L
  have h2 : PyData.depth (.list (L.map ptP)) ≤ 64 := by
    show PyData.depthAll (L.map ptP) + 1 ≤ 64
    omega
  simp [SeqAt.shaped, PyData.canLay0, lay_pts, h2]
theorem eqv_pt (x : Int × Int) : dEqv (ptD x) (ptD x) = some true := by
  unfold ptD
  simp [dEqv, dEqvL]
theorem eqv_pts : ∀ L : List (Int × Int), dEqvL (L.map ptD) (L.map ptD) = some true
  | [] => rfl
  | x :: L => by
    rw [List.map_cons]
    unfold dEqvL
    rw [eqv_pt, eqv_pts L] <;> rfl
theorem ne_pts (L : List (Int × Int)) : dNe (.lst (L.map ptD)) (.lst (L.map ptD)) = some (.bl false) := by
  unfold dNe dEqB
  rw [shOk_pts]
  have e : dEqv (.lst (L.map ptD)) (.lst (L.map ptD)) = some true := by
    unfold dEqv
    exact eqv_pts L
  simp [e]
theorem lc2_pure {vs vs1 : List Nat} {set set1 : D → En → Option En} {it1 : M (List D)} {elt : M D} (ds1 : List D) (g : D → D → D) (e : En) : ∀ ds : List D, (∀ d ∈ ds, ∃ e1, set d e = some e1 ∧ it1 e1 = some (ds1, e1) ∧ wipeE (wipeE e1 vs1) vs = e ∧ ∀ y ∈ ds1, ∃ e2, set1 y (wipeE e1 vs1) = some e2 ∧ elt e2 = some (g d y, e2) ∧ wipeE e2 vs1 = wipeE e1 vs1) →
    lc2Loop vs vs1 set tYesM it1 set1 tYesM elt ds e = some (ds.flatMap (fun d => ds1.map (g d)), e)
  | [], _ => rfl
  | d :: ds, h => by
    obtain ⟨e1, h1, h2, h3, h4⟩ := h d List.mem_cons_self
    have ih := lc2_pure (vs := vs) (vs1 := vs1) (set := set) (set1 := set1) (it1 := it1) (elt := elt) ds1 g e ds fun x hx => h x (List.mem_cons_of_mem _ hx)
    have inner := lc_pure (vs := vs1) (set := set1) (tst := tYesM) (elt := elt) (fun _ => true) (g d) (wipeE e1 vs1) ds1 fun y hy => by
      obtain ⟨e2, q1, q2, q3⟩ := h4 y hy
      exact ⟨e2, q1, rfl, fun _ => q2, q3⟩
    rw [List.filter_eq_self.mpr (fun _ _ => rfl)] at inner
    unfold lc2Loop
    rw [h1]
    have ty : tYesM e1 = some (true, e1) := rfl
    simp only [ty, h2, inner, h3, ih, if_true]
    rw [List.flatMap_cons]
end Pd
set_option Elab.async false
set_option linter.all false
set_option maxRecDepth 100000
set_option maxHeartbeats 0
namespace Lk66
open PySem L2 Pd
def fuel : Nat := 100000
def b1__law_draws : SM :=
  (sIf (asB (bin dLt (lenh 2) (rdv 1))) (sSeq (sAsg (bin dMod (una dInt (bin dAdd (bin dAdd (bin dMul (rdv 3) (ret (.int 69621))) (rdv 6)) (ret (.int 1)))) (ret (.int 2147483647))) (setN 3))
    (sApp 2 (bin dMod (bin dFdiv (una dInt (rdv 3)) (ret (.int 7))) (ret (.int 65521))))) sSkip)
def b2__law_draws : SM :=
  (sIf (asB (bin dGt (rdv 5) (ret (.int 0)))) (sSeq (sApp 2 (bin dMod (una dInt (rdv 5)) (ret (.int 1009))))
    (sAsg (bin dFdiv (rdv 5) (ret (.int 1009))) (setN 5))) sSkip)
def b3__law_draws : SM :=
  (sSeq (sAsg (una dAbs (rdv 4)) (setN 5))
    (sSeq (sAsg (bin dMod (una dInt (bin dAdd (bin dAdd (bin dMul (rdv 3) (ret (.int 48271))) (rdv 5)) (ret (.int 11)))) (ret (.int 2147483647))) (setN 3))
    (sIf (asB (bin dGe (rdv 5) (bin dPow (ret (.int 10)) (ret (.int 18))))) (sFor (mRng1 (ret (.int 60))) (setN 6) b2__law_draws) (sApp 2 (bin dMod (bin dFdiv (una dInt (bin dAdd (bin dMul (rdv 3) (ret (.int 16807))) (ret (.int 5)))) (ret (.int 3))) (ret (.int 65521)))))))
def m__law_draws : SM :=
  (sSeq (sAsgH lNil 2)
    (sSeq (sAsg (ret (.int 7)) (setN 3))
    (sSeq (sFor (mCut (rdv 0) (ret none) (asI (ret (.int 63)))) (setN 4) b3__law_draws)
    (sSeq (sFor (mRng1 (rdv 1)) (setN 6) b1__law_draws)
    (sRet (mLst (mCut (rdv 2) (ret none) (asI (rdv 1)))))))))
def f__law_draws : FS := fnS 7 m__law_draws
def m__law_prime : SM :=
  (sSeq (sAsg (mLst (lCons (ret (.int 5)) (lCons (ret (.int 7)) (lCons (ret (.int 11)) (lCons (ret (.int 13)) (lCons (ret (.int 17)) (lCons (ret (.int 19)) (lCons (ret (.int 23)) (lCons (ret (.int 29)) (lCons (ret (.int 31)) (lCons (ret (.int 37)) (lCons (ret (.int 41)) (lCons (ret (.int 43)) (lCons (ret (.int 47)) (lCons (ret (.int 53)) (lCons (ret (.int 59)) (lCons (ret (.int 61)) (lCons (ret (.int 67)) (lCons (ret (.int 71)) (lCons (ret (.int 73)) (lCons (ret (.int 79)) (lCons (ret (.int 83)) (lCons (ret (.int 89)) (lCons (ret (.int 97)) lNil)))))))))))))))))))))))) (setN 2))
    (sSeq (sAsg (mLst (lcS (mSeq (rdv 2)) [4] (setN 4) (asB (bin dLe (rdv 4) (rdv 1))) (rdv 4))) (setN 3))
    (sRet (bin dIx (rdv 3) (bin dMod (una dInt (rdv 0)) (una dLen (rdv 3)))))))
def f__law_prime : FS := fnS 5 m__law_prime
def m_is_field_prime : SM :=
  (sSeq (sIf (mOr (mNot (asB (una (dIsi "int") (rdv 0)))) (mOr (asB (una (dIsi "bool") (rdv 0))) (mNot (asB (chn dLe dLe (ret (.int 5)) (rdv 0) (ret (.int 97))))))) (sRet (ret (.bl false))) sSkip)
    (sRet (una dAll (mLst (lcS (mRng2 (ret (.int 2)) (ret (.int 10))) [1] (setN 1) (asB (bin dLt (rdv 1) (rdv 0))) (bin dNe (bin dMod (rdv 0) (rdv 1)) (ret (.int 0))))))))
def f_is_field_prime : FS := fnS 2 m_is_field_prime
def m_Field___init__ : SM :=
  (sSeq (sIf (mNot (asB (mCall f_is_field_prime (lCons (rdv 1) lNil)))) (sRaise "BadPrime") sSkip)
    (sSeq (sAsg (mDic (mRng1 (rdv 1)) [4] (setN 4) tYesM (bin dMod (bin dMul (rdv 4) (rdv 4)) (rdv 1)) (ret (.bl true))) (setN 2))
    (sSeq (sFldS 0 "Field" "p" (rdv 1))
    (sSeq (sFldS 0 "Field" "rest" (una dMinL (mLst (lcS (mRng2 (ret (.int 2)) (rdv 1)) [3] (setN 3) (asB (bin (dInK true) (rdv 3) (rdv 2))) (rdv 3)))))
    (sInv "Field" "_inverses")))))
def f_Field___init__ : FS := fnS 5 m_Field___init__
def m_Field_members : SM :=
  (sRetF (lc2S (mRng1 (una (dFld "Field" "p") (rdv 0))) [1, 2] [2] (setN 1) tYesM (mRng1 (una (dFld "Field" "p") (rdv 0))) (setN 2) tYesM (mTup (lCons (rdv 1) (lCons (rdv 2) lNil)))))
def f_Field_members : FS := fnS 3 m_Field_members
def m_Field_inverse : SM :=
  (sSeq (sIf (asB (bin dEq (rdv 1) (ret (.tup [(.int 0), (.int 0)])))) (sRaise "NoInverse") sSkip)
    (sSeq (sAsg (bin dIx (una (dFld "Field" "_inverses") (rdv 0)) (bin dMod (bin dSub (bin dMul (bin dIx (rdv 1) (ret (.int 0))) (bin dIx (rdv 1) (ret (.int 0)))) (bin dMul (bin dMul (una (dFld "Field" "rest") (rdv 0)) (bin dIx (rdv 1) (ret (.int 1)))) (bin dIx (rdv 1) (ret (.int 1))))) (una (dFld "Field" "p") (rdv 0)))) (setN 2))
    (sRet (mTup (lCons (bin dMod (bin dMul (bin dIx (rdv 1) (ret (.int 0))) (rdv 2)) (una (dFld "Field" "p") (rdv 0))) (lCons (bin dMod (bin dMul (bin dSub (ret (.int 0)) (bin dIx (rdv 1) (ret (.int 1)))) (rdv 2)) (una (dFld "Field" "p") (rdv 0))) lNil))))))
def f_Field_inverse : FS := fnS 3 m_Field_inverse
def m__law_no_inverse : SM :=
  (sSeq (sTry 2 (sMethX "Field" "inverse" f_Field_inverse (rdv 0) (lCons (mTup (lCons (ret (.int 0)) (lCons (ret (.int 0)) lNil))) lNil)) "NoInverse" true)
    (sRet (ret (.bl false))))
def f__law_no_inverse : FS := fnS 2 m__law_no_inverse
def m__law_refused : SM :=
  (sSeq (sTry 2 (sMakeX "Field" f_Field___init__ (lCons (rdv 0) lNil)) "BadPrime" true)
    (sRet (ret (.bl false))))
def f__law_refused : FS := fnS 2 m__law_refused
def b1__law_members : SM :=
  (sAsg (mLst (mCatD (rdv 1) (mLst (lcS (mRng1 (rdv 0)) [3] (setN 3) tYesM (mTup (lCons (rdv 2) (lCons (rdv 3) lNil))))))) (setN 1))
def m__law_members : SM :=
  (sSeq (sAsg (mLst lNil) (setN 1))
    (sSeq (sFor (mRng1 (rdv 0)) (setN 2) b1__law_members)
    (sRet (rdv 1))))
def f__law_members : FS := fnS 4 m__law_members
def m__law_rest : SM :=
  (sRet (bin dIx (mTup (lCons (ret (.int 0)) (lCons (ret (.int 0)) (lCons (ret (.int 0)) (lCons (ret (.int 0)) (lCons (ret (.int 0)) (lCons (ret (.int 2)) (lCons (ret (.int 0)) (lCons (ret (.int 3)) (lCons (ret (.int 0)) (lCons (ret (.int 0)) (lCons (ret (.int 0)) (lCons (ret (.int 2)) (lCons (ret (.int 0)) (lCons (ret (.int 2)) (lCons (ret (.int 0)) (lCons (ret (.int 0)) (lCons (ret (.int 0)) (lCons (ret (.int 3)) (lCons (ret (.int 0)) (lCons (ret (.int 2)) (lCons (ret (.int 0)) (lCons (ret (.int 0)) (lCons (ret (.int 0)) (lCons (ret (.int 5)) (lCons (ret (.int 0)) (lCons (ret (.int 0)) (lCons (ret (.int 0)) (lCons (ret (.int 0)) (lCons (ret (.int 0)) (lCons (ret (.int 2)) (lCons (ret (.int 0)) (lCons (ret (.int 3)) (lCons (ret (.int 0)) (lCons (ret (.int 0)) (lCons (ret (.int 0)) (lCons (ret (.int 0)) (lCons (ret (.int 0)) (lCons (ret (.int 2)) (lCons (ret (.int 0)) (lCons (ret (.int 0)) (lCons (ret (.int 0)) (lCons (ret (.int 3)) (lCons (ret (.int 0)) (lCons (ret (.int 2)) (lCons (ret (.int 0)) (lCons (ret (.int 0)) (lCons (ret (.int 0)) (lCons (ret (.int 5)) (lCons (ret (.int 0)) (lCons (ret (.int 0)) (lCons (ret (.int 0)) (lCons (ret (.int 0)) (lCons (ret (.int 0)) (lCons (ret (.int 2)) (lCons (ret (.int 0)) (lCons (ret (.int 0)) (lCons (ret (.int 0)) (lCons (ret (.int 0)) (lCons (ret (.int 0)) (lCons (ret (.int 2)) (lCons (ret (.int 0)) (lCons (ret (.int 2)) (lCons (ret (.int 0)) (lCons (ret (.int 0)) (lCons (ret (.int 0)) (lCons (ret (.int 0)) (lCons (ret (.int 0)) (lCons (ret (.int 2)) (lCons (ret (.int 0)) (lCons (ret (.int 0)) (lCons (ret (.int 0)) (lCons (ret (.int 7)) (lCons (ret (.int 0)) (lCons (ret (.int 5)) (lCons (ret (.int 0)) (lCons (ret (.int 0)) (lCons (ret (.int 0)) (lCons (ret (.int 0)) (lCons (ret (.int 0)) (lCons (ret (.int 3)) (lCons (ret (.int 0)) (lCons (ret (.int 0)) (lCons (ret (.int 0)) (lCons (ret (.int 2)) (lCons (ret (.int 0)) (lCons (ret (.int 0)) (lCons (ret (.int 0)) (lCons (ret (.int 0)) (lCons (ret (.int 0)) (lCons (ret (.int 3)) (lCons (ret (.int 0)) (lCons (ret (.int 0)) (lCons (ret (.int 0)) (lCons (ret (.int 0)) (lCons (ret (.int 0)) (lCons (ret (.int 0)) (lCons (ret (.int 0)) (lCons (ret (.int 5)) (lCons (ret (.int 0)) (lCons (ret (.int 0)) lNil))))))))))))))))))))))))))))))))))))))))))))))))))))))))))))))))))))))))))))))))))))))))))))))))))))) (rdv 0)))
def f__law_rest : FS := fnS 1 m__law_rest
def m__law_member : SM :=
  (sSeq (sAsg (bin dIx (mLst (lCons (ret (.int 0)) (lCons (ret (.int 1)) (lCons (bin dSub (rdv 0) (ret (.int 1))) (lCons (bin dMod (una dInt (bin dFdiv (rdv 1) (ret (.int 7)))) (rdv 0)) (lCons (bin dMod (una dInt (bin dFdiv (rdv 1) (ret (.int 7)))) (rdv 0)) (lCons (bin dMod (una dInt (bin dFdiv (rdv 1) (ret (.int 7)))) (rdv 0)) lNil))))))) (bin dMod (una dInt (rdv 1)) (ret (.int 6)))) (setN 3))
    (sSeq (sAsg (bin dIx (mLst (lCons (ret (.int 0)) (lCons (bin dMod (una dInt (bin dFdiv (rdv 2) (ret (.int 5)))) (rdv 0)) (lCons (bin dMod (una dInt (bin dFdiv (rdv 2) (ret (.int 5)))) (rdv 0)) (lCons (bin dSub (rdv 0) (ret (.int 1))) lNil))))) (bin dMod (una dInt (rdv 2)) (ret (.int 4)))) (setN 4))
    (sRet (mTup (lCons (rdv 3) (lCons (rdv 4) lNil))))))
def f__law_member : FS := fnS 5 m__law_member
def m__law_is_member : SM :=
  (sSeq (sIf (mOr (mNot (asB (una (dIsi "tuple") (rdv 1)))) (asB (bin dNe (una dLen (rdv 1)) (ret (.int 2))))) (sRet (ret (.bl false))) sSkip)
    (sRet (una dAll (mLst (lcS (mSeq (rdv 1)) [2] (setN 2) tYesM (vAnd (una (dIsi "int") (rdv 2)) (vAnd (vNot (una (dIsi "bool") (rdv 2))) (vAnd (bin dLe (ret (.int 0)) (rdv 2)) (bin dLt (rdv 2) (rdv 0))))))))))
def f__law_is_member : FS := fnS 3 m__law_is_member
def m__law_same : SM :=
  (sRet (vAnd (mCall f__law_is_member (lCons (rdv 0) (lCons (rdv 1) lNil))) (bin dEq (rdv 1) (rdv 2))))
def f__law_same : FS := fnS 3 m__law_same
def m_Field_turned : SM :=
  (sRet (mTup (lCons (bin dIx (rdv 1) (ret (.int 0))) (lCons (bin dMod (bin dSub (ret (.int 0)) (bin dIx (rdv 1) (ret (.int 1)))) (una (dFld "Field" "p") (rdv 0))) lNil))))
def f_Field_turned : FS := fnS 2 m_Field_turned
def m__law_times : SM :=
  (sSeq (sAsg (mCall f__law_rest (lCons (rdv 0) lNil)) (setN 3))
    (sRet (mTup (lCons (bin dMod (una dInt (bin dAdd (bin dMul (bin dIx (rdv 1) (ret (.int 0))) (bin dIx (rdv 2) (ret (.int 0)))) (bin dMul (bin dMul (rdv 3) (bin dIx (rdv 1) (ret (.int 1)))) (bin dIx (rdv 2) (ret (.int 1)))))) (rdv 0)) (lCons (bin dMod (una dInt (bin dAdd (bin dMul (bin dIx (rdv 1) (ret (.int 0))) (bin dIx (rdv 2) (ret (.int 1)))) (bin dMul (bin dIx (rdv 1) (ret (.int 1))) (bin dIx (rdv 2) (ret (.int 0)))))) (rdv 0)) lNil)))))
def f__law_times : FS := fnS 4 m__law_times
def b1__law_repeated : SM :=
  (sAsg (mCall f__law_times (lCons (rdv 0) (lCons (rdv 3) (lCons (rdv 1) lNil)))) (setN 3))
def m__law_repeated : SM :=
  (sSeq (sAsg (mTup (lCons (ret (.int 1)) (lCons (ret (.int 0)) lNil))) (setN 3))
    (sSeq (sFor (mRng1 (rdv 2)) (setN 4) b1__law_repeated)
    (sRet (rdv 3))))
def f__law_repeated : FS := fnS 5 m__law_repeated
def m_Field_number : SM :=
  (sRet (mTup (lCons (bin dMod (rdv 1) (una (dFld "Field" "p") (rdv 0))) (lCons (ret (.int 0)) lNil))))
def f_Field_number : FS := fnS 2 m_Field_number
def m_Field_plus : SM :=
  (sRet (mTup (lCons (bin dMod (bin dAdd (bin dIx (rdv 1) (ret (.int 0))) (bin dIx (rdv 2) (ret (.int 0)))) (una (dFld "Field" "p") (rdv 0))) (lCons (bin dMod (bin dAdd (bin dIx (rdv 1) (ret (.int 1))) (bin dIx (rdv 2) (ret (.int 1)))) (una (dFld "Field" "p") (rdv 0))) lNil))))
def f_Field_plus : FS := fnS 3 m_Field_plus
def m__law_plus : SM :=
  (sRet (mTup (lCons (bin dMod (una dInt (bin dAdd (bin dIx (rdv 1) (ret (.int 0))) (bin dIx (rdv 2) (ret (.int 0))))) (rdv 0)) (lCons (bin dMod (una dInt (bin dAdd (bin dIx (rdv 1) (ret (.int 1))) (bin dIx (rdv 2) (ret (.int 1))))) (rdv 0)) lNil))))
def f__law_plus : FS := fnS 3 m__law_plus
def m_Field_minus : SM :=
  (sRet (mTup (lCons (bin dMod (bin dSub (bin dIx (rdv 1) (ret (.int 0))) (bin dIx (rdv 2) (ret (.int 0)))) (una (dFld "Field" "p") (rdv 0))) (lCons (bin dMod (bin dSub (bin dIx (rdv 1) (ret (.int 1))) (bin dIx (rdv 2) (ret (.int 1)))) (una (dFld "Field" "p") (rdv 0))) lNil))))
def f_Field_minus : FS := fnS 3 m_Field_minus
def m__law_minus : SM :=
  (sRet (mTup (lCons (bin dMod (una dInt (bin dSub (bin dIx (rdv 1) (ret (.int 0))) (bin dIx (rdv 2) (ret (.int 0))))) (rdv 0)) (lCons (bin dMod (una dInt (bin dSub (bin dIx (rdv 1) (ret (.int 1))) (bin dIx (rdv 2) (ret (.int 1))))) (rdv 0)) lNil))))
def f__law_minus : FS := fnS 3 m__law_minus
def m_Field_times : SM :=
  (sRet (mTup (lCons (bin dMod (bin dAdd (bin dMul (bin dIx (rdv 1) (ret (.int 0))) (bin dIx (rdv 2) (ret (.int 0)))) (bin dMul (bin dMul (una (dFld "Field" "rest") (rdv 0)) (bin dIx (rdv 1) (ret (.int 1)))) (bin dIx (rdv 2) (ret (.int 1))))) (una (dFld "Field" "p") (rdv 0))) (lCons (bin dMod (bin dAdd (bin dMul (bin dIx (rdv 1) (ret (.int 0))) (bin dIx (rdv 2) (ret (.int 1)))) (bin dMul (bin dIx (rdv 1) (ret (.int 1))) (bin dIx (rdv 2) (ret (.int 0))))) (una (dFld "Field" "p") (rdv 0))) lNil))))
def f_Field_times : FS := fnS 3 m_Field_times
def b1_Field_power : SM :=
  (sSeq (sIf (asB (bin dEq (bin dMod (rdv 2) (ret (.int 2))) (ret (.int 1)))) (sAsg (mMeth "Field" "times" f_Field_times (rdv 0) (lCons (rdv 3) (lCons (rdv 1) lNil))) (setN 3)) sSkip)
    (sSeq (sAsg (mMeth "Field" "times" f_Field_times (rdv 0) (lCons (rdv 1) (lCons (rdv 1) lNil))) (setN 1))
    (sAug 2 dFdivS (ret (.int 2)))))
def m_Field_power : SM :=
  (sSeq (sAsg (ret (.tup [(.int 1), (.int 0)])) (setN 3))
    (sSeq (sWh (asB (bin dGt (rdv 2) (ret (.int 0)))) b1_Field_power fuel)
    (sRet (rdv 3))))
def f_Field_power : FS := fnS 4 m_Field_power
def b1_law : SM :=
  (sSeq (sPar 8 9 (mCall f__law_member (lCons (rdv 2) (lCons (bin dIx (rdv 1) (bin dAdd (ret (.int 1)) (bin dMul (ret (.int 6)) (rdv 7)))) (lCons (bin dIx (rdv 1) (bin dAdd (ret (.int 2)) (bin dMul (ret (.int 6)) (rdv 7)))) lNil)))) (mCall f__law_member (lCons (rdv 2) (lCons (bin dIx (rdv 1) (bin dAdd (ret (.int 3)) (bin dMul (ret (.int 6)) (rdv 7)))) (lCons (bin dIx (rdv 1) (bin dAdd (ret (.int 4)) (bin dMul (ret (.int 6)) (rdv 7)))) lNil)))))
    (sSeq (sIf (mOr (mNot (asB (mCall f__law_same (lCons (rdv 2) (lCons (mMeth "Field" "plus" f_Field_plus (rdv 3) (lCons (rdv 8) (lCons (rdv 9) lNil))) (lCons (mCall f__law_plus (lCons (rdv 2) (lCons (rdv 8) (lCons (rdv 9) lNil)))) lNil)))))) (mNot (asB (mCall f__law_same (lCons (rdv 2) (lCons (mMeth "Field" "minus" f_Field_minus (rdv 3) (lCons (rdv 8) (lCons (rdv 9) lNil))) (lCons (mCall f__law_minus (lCons (rdv 2) (lCons (rdv 8) (lCons (rdv 9) lNil)))) lNil))))))) (sRet (ret (.bl false))) sSkip)
    (sSeq (sAsg (bin dMod (una dInt (bin dIx (rdv 1) (bin dAdd (ret (.int 5)) (bin dMul (ret (.int 6)) (rdv 7))))) (ret (.int 61))) (setN 5))
    (sSeq (sIf (mOr (mNot (asB (mCall f__law_same (lCons (rdv 2) (lCons (mMeth "Field" "times" f_Field_times (rdv 3) (lCons (rdv 8) (lCons (rdv 9) lNil))) (lCons (mCall f__law_times (lCons (rdv 2) (lCons (rdv 8) (lCons (rdv 9) lNil)))) lNil)))))) (mNot (asB (mCall f__law_same (lCons (rdv 2) (lCons (mMeth "Field" "power" f_Field_power (rdv 3) (lCons (rdv 8) (lCons (rdv 5) lNil))) (lCons (mCall f__law_repeated (lCons (rdv 2) (lCons (rdv 8) (lCons (rdv 5) lNil)))) lNil))))))) (sRet (ret (.bl false))) sSkip)
    (sSeq (sIf (mNot (asB (mCall f__law_same (lCons (rdv 2) (lCons (mMeth "Field" "turned" f_Field_turned (rdv 3) (lCons (rdv 8) lNil)) (lCons (mCall f__law_repeated (lCons (rdv 2) (lCons (rdv 8) (lCons (rdv 2) lNil)))) lNil)))))) (sRet (ret (.bl false))) sSkip)
    (sSeq (sIf (mAnd (asB (bin dNe (rdv 8) (mTup (lCons (ret (.int 0)) (lCons (ret (.int 0)) lNil))))) (mNot (asB (mCall f__law_same (lCons (rdv 2) (lCons (mCall f__law_times (lCons (rdv 2) (lCons (rdv 8) (lCons (mMeth "Field" "inverse" f_Field_inverse (rdv 3) (lCons (rdv 8) lNil)) lNil)))) (lCons (mTup (lCons (ret (.int 1)) (lCons (ret (.int 0)) lNil))) lNil))))))) (sRet (ret (.bl false))) sSkip)
    (sSeq (sIf (mAnd (asB (bin dNe (rdv 8) (mTup (lCons (ret (.int 0)) (lCons (ret (.int 0)) lNil))))) (mNot (asB (mCall f__law_is_member (lCons (rdv 2) (lCons (mMeth "Field" "inverse" f_Field_inverse (rdv 3) (lCons (rdv 8) lNil)) lNil)))))) (sRet (ret (.bl false))) sSkip)
    (sSeq (sAsg (bin dIx (mLst (lCons (una dInt (bin dIx (rdv 1) (bin dAdd (ret (.int 6)) (bin dMul (ret (.int 6)) (rdv 7))))) (lCons (bin dSub (ret (.int 0)) (una dInt (bin dIx (rdv 1) (bin dAdd (ret (.int 6)) (bin dMul (ret (.int 6)) (rdv 7)))))) (lCons (bin dAdd (bin dPow (ret (.int 10)) (ret (.int 30))) (una dInt (bin dIx (rdv 1) (bin dAdd (ret (.int 6)) (bin dMul (ret (.int 6)) (rdv 7)))))) lNil)))) (bin dMod (una dInt (bin dIx (rdv 1) (bin dAdd (ret (.int 5)) (bin dMul (ret (.int 6)) (rdv 7))))) (ret (.int 3)))) (setN 10))
    (sIf (mNot (asB (mCall f__law_same (lCons (rdv 2) (lCons (mMeth "Field" "number" f_Field_number (rdv 3) (lCons (rdv 10) lNil)) (lCons (mTup (lCons (bin dMod (una dInt (rdv 10)) (rdv 2)) (lCons (ret (.int 0)) lNil))) lNil)))))) (sRet (ret (.bl false))) sSkip)))))))))
def m_law : SM :=
  (sSeq (sAsg (mCall f__law_draws (lCons (rdv 0) (lCons (ret (.int 40)) lNil))) (setN 1))
    (sSeq (sAsg (mCall f__law_prime (lCons (bin dIx (rdv 1) (ret (.int 0))) (lCons (ret (.int 97)) lNil))) (setN 2))
    (sSeq (sAsg (mMake "Field" f_Field___init__ (lCons (rdv 2) lNil)) (setN 3))
    (sSeq (sAsg (mLst (lcS (mRng1 (rdv 2)) [12] (setN 12) tYesM (bin dMod (una dInt (bin dMul (rdv 12) (rdv 12))) (rdv 2)))) (setN 4))
    (sSeq (sIf (mOr (asB (bin dNe (una (dFld "Field" "p") (rdv 3)) (rdv 2))) (mOr (asB (bin dNe (una (dFld "Field" "rest") (rdv 3)) (bin dIx (mLst (lcS (mRng2 (ret (.int 2)) (rdv 2)) [5] (setN 5) (asB (bin (dIn true) (rdv 5) (rdv 4))) (rdv 5))) (ret (.int 0))))) (asB (una (dIsi "bool") (una (dFld "Field" "rest") (rdv 3)))))) (sRet (ret (.bl false))) sSkip)
    (sSeq (sAsgH (mMethN "Field" "members" f_Field_members (rdv 3) lNil) 6)
    (sSeq (sIf (mOr (asB (cmph 6 dNe (mCall f__law_members (lCons (rdv 2) lNil)))) (mNot (asB (isih 6 "list")))) (sRet (ret (.bl false))) sSkip)
    (sSeq (sApp 6 (mTup (lCons (ret (.int 0)) (lCons (ret (.int 0)) lNil))))
    (sSeq (sIf (mOr (asB (bin dNe (una dLen (mMeth "Field" "members" f_Field_members (rdv 3) lNil)) (bin dMul (rdv 2) (rdv 2)))) (asB (bin dNe (una (dFld "Field" "rest") (rdv 3)) (mCall f__law_rest (lCons (rdv 2) lNil))))) (sRet (ret (.bl false))) sSkip)
    (sSeq (sFor (mRng1 (ret (.int 4))) (setN 7) b1_law)
    (sSeq (sAsg (mLst (lCons (ret (.int 0)) (lCons (ret (.int 1)) (lCons (ret (.int 2)) (lCons (ret (.int 3)) (lCons (ret (.int 4)) (lCons (ret (.int 9)) (lCons (ret (.int 49)) (lCons (ret (.int 91)) (lCons (ret (.int 95)) (lCons (ret (.int 101)) (lCons (ret (.int 103)) (lCons (una dNeg (ret (.int 7))) (lCons (bin dAdd (bin dPow (ret (.int 10)) (ret (.int 20))) (ret (.int 39))) (lCons (ret (.bl true)) (lCons (ret (.str "7")) (lCons (ret .non) (lCons (mTup (lCons (ret (.int 7)) lNil)) (lCons (ret (.int 77)) (lCons (ret (.int 25)) lNil)))))))))))))))))))) (setN 11))
    (sRet (vAnd (mCall f__law_no_inverse (lCons (rdv 3) lNil)) (vAnd (mCall f__law_refused (lCons (bin dIx (rdv 11) (bin dMod (una dInt (bin dIx (rdv 1) (ret (.int 30)))) (una dLen (rdv 11)))) lNil)) (mCall f__law_refused (lCons (bin dIx (rdv 11) (bin dMod (una dInt (bin dIx (rdv 1) (ret (.int 31)))) (una dLen (rdv 11)))) lNil))))))))))))))))
def f_law : FS := fnS 13 m_law
end Lk66
set_option Elab.async false
set_option linter.all false
set_option maxRecDepth 100000
set_option maxHeartbeats 0
namespace Lk66
open PySem L2 Pd
abbrev prog : Program := PySem.Challenge.pw_hecate_k66_the_field
def topS (i : Nat) : Stmt := prog.main.body.getD i (.Pass ⟨0, 0, 0, 0⟩)
abbrev s__law_draws : Stmt := (topS 14)
abbrev N__law_draws : List Str := ["script", "many", "draws", "seed", "cell", "number", "k"]
theorem sc__law_draws : FnScope N__law_draws ["script", "many"] (defScope s__law_draws) := ⟨rfl, rfl, rfl, by decide +kernel, rfl, by decide +kernel, by decide +kernel⟩
abbrev s__law_prime : Stmt := (topS 15)
abbrev N__law_prime : List Str := ["draw", "most", "primes", "some", "p"]
theorem sc__law_prime : FnScope N__law_prime ["draw", "most"] (defScope s__law_prime) := ⟨rfl, rfl, rfl, by decide +kernel, rfl, by decide +kernel, by decide +kernel⟩
abbrev s_is_field_prime : Stmt := (topS 11)
abbrev N_is_field_prime : List Str := ["p", "d"]
theorem sc_is_field_prime : FnScope N_is_field_prime ["p"] (defScope s_is_field_prime) := ⟨rfl, rfl, rfl, by decide +kernel, rfl, by decide +kernel, by decide +kernel⟩
abbrev s_Field___init__ : Stmt := (inClass (topS 12) 0)
abbrev N_Field___init__ : List Str := ["self", "p", "squares", "n", "x"]
theorem sc_Field___init__ : FnScope N_Field___init__ ["self", "p"] (defScope s_Field___init__) := ⟨rfl, rfl, rfl, by decide +kernel, rfl, by decide +kernel, by decide +kernel⟩
abbrev s_Field_members : Stmt := (inClass (topS 12) 2)
abbrev N_Field_members : List Str := ["self", "a", "b"]
theorem sc_Field_members : FnScope N_Field_members ["self"] (defScope s_Field_members) := ⟨rfl, rfl, rfl, by decide +kernel, rfl, by decide +kernel, by decide +kernel⟩
abbrev s_Field_inverse : Stmt := (inClass (topS 12) 7)
abbrev N_Field_inverse : List Str := ["self", "a", "norm"]
theorem sc_Field_inverse : FnScope N_Field_inverse ["self", "a"] (defScope s_Field_inverse) := ⟨rfl, rfl, rfl, by decide +kernel, rfl, by decide +kernel, by decide +kernel⟩
abbrev s__law_no_inverse : Stmt := (topS 23)
abbrev N__law_no_inverse : List Str := ["field", "e"]
theorem sc__law_no_inverse : FnScope N__law_no_inverse ["field"] (defScope s__law_no_inverse) := ⟨rfl, rfl, rfl, by decide +kernel, rfl, by decide +kernel, by decide +kernel⟩
abbrev s__law_refused : Stmt := (topS 24)
abbrev N__law_refused : List Str := ["value", "e"]
theorem sc__law_refused : FnScope N__law_refused ["value"] (defScope s__law_refused) := ⟨rfl, rfl, rfl, by decide +kernel, rfl, by decide +kernel, by decide +kernel⟩
abbrev s__law_members : Stmt := (topS 22)
abbrev N__law_members : List Str := ["p", "found", "u", "v"]
theorem sc__law_members : FnScope N__law_members ["p"] (defScope s__law_members) := ⟨rfl, rfl, rfl, by decide +kernel, rfl, by decide +kernel, by decide +kernel⟩
abbrev s__law_rest : Stmt := (topS 16)
abbrev N__law_rest : List Str := ["p"]
theorem sc__law_rest : FnScope N__law_rest ["p"] (defScope s__law_rest) := ⟨rfl, rfl, rfl, by decide +kernel, rfl, by decide +kernel, by decide +kernel⟩
abbrev s__law_member : Stmt := (topS 20)
abbrev N__law_member : List Str := ["p", "one", "two", "first", "second"]
theorem sc__law_member : FnScope N__law_member ["p", "one", "two"] (defScope s__law_member) := ⟨rfl, rfl, rfl, by decide +kernel, rfl, by decide +kernel, by decide +kernel⟩
abbrev s__law_is_member : Stmt := (topS 21)
abbrev N__law_is_member : List Str := ["p", "value", "one"]
theorem sc__law_is_member : FnScope N__law_is_member ["p", "value"] (defScope s__law_is_member) := ⟨rfl, rfl, rfl, by decide +kernel, rfl, by decide +kernel, by decide +kernel⟩
abbrev s__law_same : Stmt := (topS 25)
abbrev N__law_same : List Str := ["p", "found", "due"]
theorem sc__law_same : FnScope N__law_same ["p", "found", "due"] (defScope s__law_same) := ⟨rfl, rfl, rfl, by decide +kernel, rfl, by decide +kernel, by decide +kernel⟩
abbrev s_Field_turned : Stmt := (inClass (topS 12) 11)
abbrev N_Field_turned : List Str := ["self", "a"]
theorem sc_Field_turned : FnScope N_Field_turned ["self", "a"] (defScope s_Field_turned) := ⟨rfl, rfl, rfl, by decide +kernel, rfl, by decide +kernel, by decide +kernel⟩
abbrev s__law_times : Stmt := (topS 19)
abbrev N__law_times : List Str := ["p", "a", "b", "rest"]
theorem sc__law_times : FnScope N__law_times ["p", "a", "b"] (defScope s__law_times) := ⟨rfl, rfl, rfl, by decide +kernel, rfl, by decide +kernel, by decide +kernel⟩
abbrev s__law_repeated : Stmt := (topS 26)
abbrev N__law_repeated : List Str := ["p", "a", "n", "found", "k"]
theorem sc__law_repeated : FnScope N__law_repeated ["p", "a", "n"] (defScope s__law_repeated) := ⟨rfl, rfl, rfl, by decide +kernel, rfl, by decide +kernel, by decide +kernel⟩
abbrev s_Field_number : Stmt := (inClass (topS 12) 3)
abbrev N_Field_number : List Str := ["self", "n"]
theorem sc_Field_number : FnScope N_Field_number ["self", "n"] (defScope s_Field_number) := ⟨rfl, rfl, rfl, by decide +kernel, rfl, by decide +kernel, by decide +kernel⟩
abbrev s_Field_plus : Stmt := (inClass (topS 12) 4)
abbrev N_Field_plus : List Str := ["self", "a", "b"]
theorem sc_Field_plus : FnScope N_Field_plus ["self", "a", "b"] (defScope s_Field_plus) := ⟨rfl, rfl, rfl, by decide +kernel, rfl, by decide +kernel, by decide +kernel⟩
abbrev s__law_plus : Stmt := (topS 17)
abbrev N__law_plus : List Str := ["p", "a", "b"]
theorem sc__law_plus : FnScope N__law_plus ["p", "a", "b"] (defScope s__law_plus) := ⟨rfl, rfl, rfl, by decide +kernel, rfl, by decide +kernel, by decide +kernel⟩
abbrev s_Field_minus : Stmt := (inClass (topS 12) 5)
abbrev N_Field_minus : List Str := ["self", "a", "b"]
theorem sc_Field_minus : FnScope N_Field_minus ["self", "a", "b"] (defScope s_Field_minus) := ⟨rfl, rfl, rfl, by decide +kernel, rfl, by decide +kernel, by decide +kernel⟩
abbrev s__law_minus : Stmt := (topS 18)
abbrev N__law_minus : List Str := ["p", "a", "b"]
theorem sc__law_minus : FnScope N__law_minus ["p", "a", "b"] (defScope s__law_minus) := ⟨rfl, rfl, rfl, by decide +kernel, rfl, by decide +kernel, by decide +kernel⟩
abbrev s_Field_times : Stmt := (inClass (topS 12) 6)
abbrev N_Field_times : List Str := ["self", "a", "b"]
theorem sc_Field_times : FnScope N_Field_times ["self", "a", "b"] (defScope s_Field_times) := ⟨rfl, rfl, rfl, by decide +kernel, rfl, by decide +kernel, by decide +kernel⟩
abbrev s_Field_power : Stmt := (inClass (topS 12) 10)
abbrev N_Field_power : List Str := ["self", "a", "n", "found"]
theorem sc_Field_power : FnScope N_Field_power ["self", "a", "n"] (defScope s_Field_power) := ⟨rfl, rfl, rfl, by decide +kernel, rfl, by decide +kernel, by decide +kernel⟩
abbrev s_law : Stmt := (topS 27)
abbrev N_law : List Str := ["script", "draws", "p", "field", "squares", "n", "told", "k", "a", "b", "number", "bad", "x"]
theorem sc_law : FnScope N_law ["script"] (defScope s_law) := ⟨rfl, rfl, rfl, by decide +kernel, rfl, by decide +kernel, by decide +kernel⟩
structure Txt (K : PySem.W.Frag) (mg : Str → Option Value) : Prop where
  z_range : mg "range" = none
  z_len : mg "len" = none
  z_int : mg "int" = none
  z_abs : mg "abs" = none
  z_all : mg "all" = none
  z_isinstance : mg "isinstance" = none
  z_bool : mg "bool" = none
  v_LEAST_PRIME : ∃ v, Gv K mg "LEAST_PRIME" v (.int 5)
  v_MOST_PRIME : ∃ v, Gv K mg "MOST_PRIME" v (.int 97)
  c_Field : Cls K (He.ga K "Field")
  n_Field__inverses : NoAttr K (He.ga K "Field") "_inverses"
  n_Field_rest : NoAttr K (He.ga K "Field") "rest"
  z_min : mg "min" = none
  n_Field_p : NoAttr K (He.ga K "Field") "p"
  g_is_field_prime : mg "is_field_prime" = some (.ref (He.ga K "is_field_prime"))
  e_BadPrime : Exq K mg "BadPrime"
  v_ZERO : ∃ v, Gv K mg "ZERO" v (.tup [(.int 0), (.int 0)])
  e_NoInverse : Exq K mg "NoInverse"
  m_Field_inverse : Meth K (He.ga K "Field") "inverse" (He.ma K (He.ga K "Field") "inverse")
  x_NoInverse : ExcC K (He.ga K "NoInverse")
  g_NoInverse : mg "NoInverse" = some (.ref (He.ga K "NoInverse"))
  xk_NoInverse_NoInverse_True : PySem.W.kitOne K (.ref (He.ga K "NoInverse")) (.ref (He.ga K "NoInverse")) = some true
  z_ValueError : mg "ValueError" = none
  xt_NoInverse_ValueError_True : PySem.W.kitOne K (.ref (He.ga K "NoInverse")) (.type "ValueError") = some true
  g_BadPrime : mg "BadPrime" = some (.ref (He.ga K "BadPrime"))
  xk_NoInverse_BadPrime_False : PySem.W.kitOne K (.ref (He.ga K "NoInverse")) (.ref (He.ga K "BadPrime")) = some false
  g_HecateError : mg "HecateError" = some (.ref (He.ga K "HecateError"))
  xm_NoInverse_HecateError : PySem.W.exmOne K (.ref (He.ga K "NoInverse")) (.ref (He.ga K "HecateError")) = some true
  g_Field : mg "Field" = some (.ref (He.ga K "Field"))
  k_Field : Mk K (He.ga K "Field") (He.ma K (He.ga K "Field") "__init__")
  x_BadPrime : ExcC K (He.ga K "BadPrime")
  xk_BadPrime_BadPrime_True : PySem.W.kitOne K (.ref (He.ga K "BadPrime")) (.ref (He.ga K "BadPrime")) = some true
  xt_BadPrime_ValueError_True : PySem.W.kitOne K (.ref (He.ga K "BadPrime")) (.type "ValueError") = some true
  g_BadCurve : mg "BadCurve" = some (.ref (He.ga K "BadCurve"))
  xk_BadPrime_BadCurve_False : PySem.W.kitOne K (.ref (He.ga K "BadPrime")) (.ref (He.ga K "BadCurve")) = some false
  xm_BadPrime_HecateError : PySem.W.exmOne K (.ref (He.ga K "BadPrime")) (.ref (He.ga K "HecateError")) = some true
  z_tuple : mg "tuple" = none
  g__law_is_member : mg "_law_is_member" = some (.ref (He.ga K "_law_is_member"))
  g__law_rest : mg "_law_rest" = some (.ref (He.ga K "_law_rest"))
  g__law_times : mg "_law_times" = some (.ref (He.ga K "_law_times"))
  m_Field_times : Meth K (He.ga K "Field") "times" (He.ma K (He.ga K "Field") "times")
  v_ONE : ∃ v, Gv K mg "ONE" v (.tup [(.int 1), (.int 0)])
  g__law_no_inverse : mg "_law_no_inverse" = some (.ref (He.ga K "_law_no_inverse"))
  g__law_refused : mg "_law_refused" = some (.ref (He.ga K "_law_refused"))
  g__law_same : mg "_law_same" = some (.ref (He.ga K "_law_same"))
  m_Field_number : Meth K (He.ga K "Field") "number" (He.ma K (He.ga K "Field") "number")
  g__law_repeated : mg "_law_repeated" = some (.ref (He.ga K "_law_repeated"))
  m_Field_turned : Meth K (He.ga K "Field") "turned" (He.ma K (He.ga K "Field") "turned")
  m_Field_power : Meth K (He.ga K "Field") "power" (He.ma K (He.ga K "Field") "power")
  g__law_plus : mg "_law_plus" = some (.ref (He.ga K "_law_plus"))
  m_Field_plus : Meth K (He.ga K "Field") "plus" (He.ma K (He.ga K "Field") "plus")
  g__law_minus : mg "_law_minus" = some (.ref (He.ga K "_law_minus"))
  m_Field_minus : Meth K (He.ga K "Field") "minus" (He.ma K (He.ga K "Field") "minus")
  g__law_member : mg "_law_member" = some (.ref (He.ga K "_law_member"))
  m_Field_members : Meth K (He.ga K "Field") "members" (He.ma K (He.ga K "Field") "members")
  g__law_members : mg "_law_members" = some (.ref (He.ga K "_law_members"))
  z_list : mg "list" = none
  g__law_prime : mg "_law_prime" = some (.ref (He.ga K "_law_prime"))
  g__law_draws : mg "_law_draws" = some (.ref (He.ga K "_law_draws"))
section
variable {P : Program} {w : World} {K : PySem.W.Frag} {mg : Str → Option Value} {base : Heap}
theorem ok__law_draws (T : Txt K mg) {fd : FuncData} (F : FunD K "_law_draws" "_law_draws" (defArgs s__law_draws) (defBody s__law_draws) (defScope s__law_draws) [] [] (He.ga K "_law_draws") fd)  : Df P w K mg base 1 (He.ga K "_law_draws") 2 f__law_draws := by
  refine df_of (ps := ["script", "many"]) (m := m__law_draws) F sc__law_draws rfl (by decide) (fun _ _ _ _ _ _ us hl => match us, hl with | [_, _], _ => rfl) fun cdv A outer s H E hr => ?_
  exact ⟨_, (xss_cons (xs_setH 2 sc__law_draws.nd rfl (.inl rfl) (xf_lst xl_nil))
    (xss_cons (xs_set 3 sc__law_draws.nd rfl (.inl rfl) xe_int)
    (xss_cons (xs_for passes_fn rfl (xi_new (xf_cut (xe_var 0 rfl (.inl rfl)) xo_none (xo_some xe_int))) (xg_name 4 sc__law_draws.nd rfl (.inl rfl)) (xss_cons (xs_set 5 sc__law_draws.nd rfl (.inl rfl) (xe_abs T.z_abs (xe_var 4 rfl (.inl rfl))))
    (xss_cons (xs_set 3 sc__law_draws.nd rfl (.inl rfl) (xe_mod (xe_intc T.z_int (xe_add (xe_add (xe_mul (xe_var 3 rfl (.inl rfl)) xe_int) (xe_var 5 rfl (.inl rfl))) xe_int)) xe_int))
    (xss_one (xs_if (xt_ge (xe_var 5 rfl (.inl rfl)) (xe_pow xe_int xe_int)) (xss_one (xs_for passes_fn rfl (xi_rng1 T.z_range xe_int) (xg_name 6 sc__law_draws.nd rfl (.inl rfl)) (xss_one (xs_if (xt_gt (xe_var 5 rfl (.inl rfl)) xe_int) (xss_cons (xs_app 2 rfl (.inl rfl) (xe_mod (xe_intc T.z_int (xe_var 5 rfl (.inl rfl))) xe_int) (hp := pe_bm PySem.F.plainAttrs_list PySem.F.slot_list_append PySem.F.type_list_append mt_append (pe_var rfl (.inl rfl)) (pa_cons (xe_mod (xe_intc T.z_int (xe_var 5 rfl (.inl rfl))) xe_int).p pa_nil)))
    (xss_one (xs_set 5 sc__law_draws.nd rfl (.inl rfl) (xe_fdiv (xe_var 5 rfl (.inl rfl)) xe_int)))) xss_nil)))) (xss_one (xs_app 2 rfl (.inl rfl) (xe_mod (xe_fdiv (xe_intc T.z_int (xe_add (xe_mul (xe_var 3 rfl (.inl rfl)) xe_int) xe_int)) xe_int) xe_int) (hp := pe_bm PySem.F.plainAttrs_list PySem.F.slot_list_append PySem.F.type_list_append mt_append (pe_var rfl (.inl rfl)) (pa_cons (xe_mod (xe_fdiv (xe_intc T.z_int (xe_add (xe_mul (xe_var 3 rfl (.inl rfl)) xe_int) xe_int)) xe_int) xe_int).p pa_nil)))))))))
    (xss_cons (xs_for passes_fn rfl (xi_rng1 T.z_range (xe_var 1 rfl (.inl rfl))) (xg_name 6 sc__law_draws.nd rfl (.inl rfl)) (xss_one (xs_if (xt_lt (xe_lenh 2 T.z_len rfl (.inl rfl)) (xe_var 1 rfl (.inl rfl))) (xss_cons (xs_set 3 sc__law_draws.nd rfl (.inl rfl) (xe_mod (xe_intc T.z_int (xe_add (xe_add (xe_mul (xe_var 3 rfl (.inl rfl)) xe_int) (xe_var 6 rfl (.inl rfl))) xe_int)) xe_int))
    (xss_one (xs_app 2 rfl (.inl rfl) (xe_mod (xe_fdiv (xe_intc T.z_int (xe_var 3 rfl (.inl rfl))) xe_int) xe_int) (hp := pe_bm PySem.F.plainAttrs_list PySem.F.slot_list_append PySem.F.type_list_append mt_append (pe_var rfl (.inl rfl)) (pa_cons (xe_mod (xe_fdiv (xe_intc T.z_int (xe_var 3 rfl (.inl rfl))) xe_int) xe_int).p pa_nil))))) xss_nil)))
    (xss_one (xs_ret (xe_new (xf_cut (xe_var 2 rfl (.inl rfl)) xo_none (xo_some (xe_var 1 rfl (.inl rfl)))))))))))⟩
theorem ok__law_prime (T : Txt K mg) {fd : FuncData} (F : FunD K "_law_prime" "_law_prime" (defArgs s__law_prime) (defBody s__law_prime) (defScope s__law_prime) [] [] (He.ga K "_law_prime") fd)  : Df P w K mg base 1 (He.ga K "_law_prime") 2 f__law_prime := by
  refine df_of (ps := ["draw", "most"]) (m := m__law_prime) F sc__law_prime rfl (by decide) (fun _ _ _ _ _ _ us hl => match us, hl with | [_, _], _ => rfl) fun cdv A outer s H E hr => ?_
  exact ⟨_, (xss_cons (xs_set 2 sc__law_prime.nd rfl (.inl rfl) (xe_new (xf_lst (xl_cons xe_int (xl_cons xe_int (xl_cons xe_int (xl_cons xe_int (xl_cons xe_int (xl_cons xe_int (xl_cons xe_int (xl_cons xe_int (xl_cons xe_int (xl_cons xe_int (xl_cons xe_int (xl_cons xe_int (xl_cons xe_int (xl_cons xe_int (xl_cons xe_int (xl_cons xe_int (xl_cons xe_int (xl_cons xe_int (xl_cons xe_int (xl_cons xe_int (xl_cons xe_int (xl_cons xe_int (xl_cons xe_int xl_nil))))))))))))))))))))))))))
    (xss_cons (xs_setLc (own := [("p", 4)]) 3 rfl sc__law_prime.nd rfl rfl (sw_true rfl rfl rfl (by decide +kernel)) (xi_seq (xe_var 2 rfl (.inl rfl))) (blkOk_by (N := N__law_prime) (sc := defScope s__law_prime) (by decide +kernel)) (fun _ _ _ _ _ => (xg_name 4 sc__law_prime.nd rfl (.inl rfl))) (fun _ _ _ _ _ => (xts_one (xt_le (xe_var 4 rfl (.inl rfl)) (xe_var 1 rfl (.inr (.inl rfl)))))) (fun _ _ _ _ _ => (xe_var 4 rfl (.inl rfl))) (by decide))
    (xss_one (xs_ret (xe_ix (xe_var 3 rfl (.inl rfl)) (xe_mod (xe_intc T.z_int (xe_var 0 rfl (.inl rfl))) (xe_len T.z_len (xe_var 3 rfl (.inl rfl)))))))))⟩
theorem ok_is_field_prime (T : Txt K mg) {fd : FuncData} (F : FunD K "is_field_prime" "is_field_prime" (defArgs s_is_field_prime) (defBody s_is_field_prime) (defScope s_is_field_prime) [] [] (He.ga K "is_field_prime") fd)  : Df P w K mg base 1 (He.ga K "is_field_prime") 1 f_is_field_prime := by
  obtain ⟨v_LEAST_PRIME, G_LEAST_PRIME⟩ := T.v_LEAST_PRIME
  obtain ⟨v_MOST_PRIME, G_MOST_PRIME⟩ := T.v_MOST_PRIME
  refine df_of (ps := ["p"]) (m := m_is_field_prime) F sc_is_field_prime rfl (by decide) (fun _ _ _ _ _ _ us hl => match us, hl with | [_], _ => rfl) fun cdv A outer s H E hr => ?_
  exact ⟨_, (xss_cons (xs_if (xt_w (xw_or (xt_not (xt_val (xe_isi (T := "int") T.z_isinstance T.z_int (by decide +kernel) (xe_var 0 rfl (.inr (.inl rfl)))))) (xw_or (xt_val (xe_isi (T := "bool") T.z_isinstance T.z_bool (by decide +kernel) (xe_var 0 rfl (.inr (.inl rfl))))) (xw_or1 (xt_not (xt_chain op_le bs_le op_le bs_le (xe_glob G_LEAST_PRIME) (xe_var 0 rfl (.inr (.inl rfl))) (xe_glob G_MOST_PRIME))))))) (xss_one (xs_ret xe_bl)) xss_nil)
    (xss_one (xs_ret (xe_all rfl T.z_all (xe_new (xf_lc (own := [("d", 1)]) rfl sc_is_field_prime.nd (xi_rng2 T.z_range xe_int xe_int) (blkOk_by (N := N_is_field_prime) (sc := defScope s_is_field_prime) (by decide +kernel)) (fun _ _ _ _ _ => (xg_name 1 sc_is_field_prime.nd rfl (.inl rfl))) (fun _ _ _ _ _ => (xts_one (xt_lt (xe_var 1 rfl (.inl rfl)) (xe_var 0 rfl (.inr (.inl rfl)))))) (fun _ _ _ _ _ => (xe_ne hr.units (xe_mod (xe_var 0 rfl (.inr (.inl rfl))) (xe_var 1 rfl (.inl rfl))) xe_int)) (by decide)))))))⟩
theorem ok_Field___init__ (T : Txt K mg) {fd : FuncData} (F : FunD K "__init__" "Field.__init__" (defArgs s_Field___init__) (defBody s_Field___init__) (defScope s_Field___init__) [] [] (He.ma K (He.ga K "Field") "__init__") fd) (D_is_field_prime : Df P w K mg base 1 (He.ga K "is_field_prime") 1 f_is_field_prime) : Df P w K mg base 2 (He.ma K (He.ga K "Field") "__init__") 2 f_Field___init__ := by
  refine df_of (ps := ["self", "p"]) (m := m_Field___init__) F sc_Field___init__ rfl (by decide) (fun _ _ _ _ _ _ us hl => match us, hl with | [_, _], _ => rfl) fun cdv A outer s H E hr => ?_
  exact ⟨_, (xss_cons (xs_if (xt_not (xt_val (xe_call D_is_field_prime hr T.g_is_field_prime (xl_cons (xe_var 1 rfl (.inr (.inl rfl))) xl_nil)))) (xss_one (xs_raise rfl takes_fn T.e_BadPrime)) xss_nil)
    (xss_cons (xs_set 2 sc_Field___init__.nd rfl (.inr rfl) (xe_dc (own := [("x", 4)]) rfl sc_Field___init__.nd (xi_rng1 T.z_range (xe_var 1 rfl (.inr (.inl rfl)))) (blkOk_by (N := N_Field___init__) (sc := defScope s_Field___init__) (by decide +kernel)) (fun _ _ _ _ _ => (xg_name 4 sc_Field___init__.nd rfl (.inl rfl))) (fun _ _ _ _ _ => xts_nil) (fun _ _ _ _ _ => (xe_mod (xe_mul (xe_var 4 rfl (.inl rfl)) (xe_var 4 rfl (.inl rfl))) (xe_var 1 rfl (.inr (.inl rfl))))) (fun _ _ _ _ _ => xe_bl) (by decide)))
    (xss_cons (xs_fld 0 T.c_Field T.n_Field_p rfl (.inl rfl) (xe_var 1 rfl (.inr (.inl rfl))))
    (xss_cons (xs_fld 0 T.c_Field T.n_Field_rest rfl (.inl rfl) (xe_minL rfl T.z_min (xe_new (xf_lc (own := [("n", 3)]) rfl sc_Field___init__.nd (xi_rng2 T.z_range xe_int (xe_var 1 rfl (.inr (.inl rfl)))) (blkOk_by (N := N_Field___init__) (sc := defScope s_Field___init__) (by decide +kernel)) (fun _ _ _ _ _ => (xg_name 3 sc_Field___init__.nd rfl (.inl rfl))) (fun _ _ _ _ _ => (xts_one (xt_ninK hr.units (xe_var 3 rfl (.inl rfl)) (xe_var 2 rfl (.inr (.inl rfl)))))) (fun _ _ _ _ _ => (xe_var 3 rfl (.inl rfl))) (by decide)))))
    (xss_inv rfl T.c_Field T.n_Field__inverses (xs_fld 0 T.c_Field T.n_Field__inverses rfl (.inl rfl) (xe_new (xf_lst (xl_cons xe_int (xl_cons xe_int xl_nil)))) (W := fun _ _ _ => False)).p (ps_for passes_fn rfl (xi_rng2 T.z_range xe_int (xe_var 1 rfl (.inr (.inl rfl)))).p (xg_name 3 sc_Field___init__.nd rfl (.inl rfl)).p (pss_one (ps_expr (pe_bm PySem.F.plainAttrs_list PySem.F.slot_list_append PySem.F.type_list_append mt_append (xe_fldh 0 T.c_Field T.n_Field__inverses rfl (.inl rfl)).p (pa_cons (xe_mod (xe_mul (xe_sub (xe_var 1 rfl (.inr (.inl rfl))) (xe_fdiv (xe_var 1 rfl (.inr (.inl rfl))) (xe_var 3 rfl (.inl rfl)))) (xe_ix (xe_fldh 0 T.c_Field T.n_Field__inverses rfl (.inl rfl)) (xe_mod (xe_var 1 rfl (.inr (.inl rfl))) (xe_var 3 rfl (.inl rfl))))) (xe_var 1 rfl (.inr (.inl rfl)))).p pa_nil)) (by rfl))) (by intro _; rfl)))))))⟩
theorem ok_Field_members (T : Txt K mg) {fd : FuncData} (F : FunD K "members" "Field.members" (defArgs s_Field_members) (defBody s_Field_members) (defScope s_Field_members) [] [] (He.ma K (He.ga K "Field") "members") fd)  : Df P w K mg base 1 (He.ma K (He.ga K "Field") "members") 1 f_Field_members := by
  refine df_of (ps := ["self"]) (m := m_Field_members) F sc_Field_members rfl (by decide) (fun _ _ _ _ _ _ us hl => match us, hl with | [_], _ => rfl) fun cdv A outer s H E hr => ?_
  exact ⟨_, (xss_one (xs_retF (xf_lc2 (own := [("a", 1), ("b", 2)]) (vs1 := [2]) rfl sc_Field_members.nd (xi_rng1 T.z_range (xe_fld T.c_Field T.n_Field_p (xe_var 0 rfl (.inr (.inl rfl))))) (blkOk_by (N := N_Field_members) (sc := defScope s_Field_members) (by decide +kernel)) (by decide) (fun _ _ _ _ _ => (xg_name 1 sc_Field_members.nd rfl (.inl rfl))) (fun _ _ _ _ _ => xts_nil) (fun _ _ _ _ _ => (xi_rng1 T.z_range (xe_fld T.c_Field T.n_Field_p (xe_var 0 rfl (.inr (.inl rfl)))))) (fun _ _ _ _ _ => (xg_name 2 sc_Field_members.nd rfl (.inl rfl))) (fun _ _ _ _ _ => xts_nil) (fun _ _ _ _ _ => (xe_tup (xl_cons (xe_var 1 rfl (.inl rfl)) (xl_cons (xe_var 2 rfl (.inl rfl)) xl_nil)))) (by decide) (by decide))))⟩
theorem ok_Field_inverse (T : Txt K mg) {fd : FuncData} (F : FunD K "inverse" "Field.inverse" (defArgs s_Field_inverse) (defBody s_Field_inverse) (defScope s_Field_inverse) [] [] (He.ma K (He.ga K "Field") "inverse") fd)  : Df P w K mg base 1 (He.ma K (He.ga K "Field") "inverse") 2 f_Field_inverse := by
  obtain ⟨v_ZERO, G_ZERO⟩ := T.v_ZERO
  refine df_of (ps := ["self", "a"]) (m := m_Field_inverse) F sc_Field_inverse rfl (by decide) (fun _ _ _ _ _ _ us hl => match us, hl with | [_, _], _ => rfl) fun cdv A outer s H E hr => ?_
  exact ⟨_, (xss_cons (xs_if (xt_eq hr.units (xe_var 1 rfl (.inl rfl)) (xe_glob G_ZERO)) (xss_one (xs_raise rfl takes_fn T.e_NoInverse)) xss_nil)
    (xss_cons (xs_set 2 sc_Field_inverse.nd rfl (.inl rfl) (xe_ix (xe_fld T.c_Field T.n_Field__inverses (xe_var 0 rfl (.inl rfl))) (xe_mod (xe_sub (xe_mul (xe_ix (xe_var 1 rfl (.inl rfl)) xe_int) (xe_ix (xe_var 1 rfl (.inl rfl)) xe_int)) (xe_mul (xe_mul (xe_fld T.c_Field T.n_Field_rest (xe_var 0 rfl (.inl rfl))) (xe_ix (xe_var 1 rfl (.inl rfl)) xe_int)) (xe_ix (xe_var 1 rfl (.inl rfl)) xe_int))) (xe_fld T.c_Field T.n_Field_p (xe_var 0 rfl (.inl rfl))))))
    (xss_one (xs_ret (xe_tup (xl_cons (xe_mod (xe_mul (xe_ix (xe_var 1 rfl (.inl rfl)) xe_int) (xe_var 2 rfl (.inl rfl))) (xe_fld T.c_Field T.n_Field_p (xe_var 0 rfl (.inl rfl)))) (xl_cons (xe_mod (xe_mul (xe_sub xe_int (xe_ix (xe_var 1 rfl (.inl rfl)) xe_int)) (xe_var 2 rfl (.inl rfl))) (xe_fld T.c_Field T.n_Field_p (xe_var 0 rfl (.inl rfl)))) xl_nil)))))))⟩
theorem ok__law_no_inverse (T : Txt K mg) {fd : FuncData} (F : FunD K "_law_no_inverse" "_law_no_inverse" (defArgs s__law_no_inverse) (defBody s__law_no_inverse) (defScope s__law_no_inverse) [] [] (He.ga K "_law_no_inverse") fd) (D_Field_inverse : Df P w K mg base 1 (He.ma K (He.ga K "Field") "inverse") 2 f_Field_inverse) : Df P w K mg base 2 (He.ga K "_law_no_inverse") 1 f__law_no_inverse := by
  refine df_of (ps := ["field"]) (m := m__law_no_inverse) F sc__law_no_inverse rfl (by decide) (fun _ _ _ _ _ _ us hl => match us, hl with | [_], _ => rfl) fun cdv A outer s H E hr => ?_
  exact ⟨_, (xss_cons (xs_try (i := 1) (c := "NoInverse") (v := true) rfl rfl rfl rfl sc__law_no_inverse.nd rfl rfl T.g_HecateError T.xm_NoInverse_HecateError (fun W pn xe tk po => (xss_one (xs_methX tk T.c_Field T.m_Field_inverse D_Field_inverse hr (xe_var 0 rfl (.inl rfl)) (xl_cons (xe_tup (xl_cons xe_int (xl_cons xe_int xl_nil))) xl_nil)))) (fun a oe pn hz hf => (xx_and (xx_isC (v := true) T.x_NoInverse hz hf rfl (.inl rfl) T.z_isinstance T.g_NoInverse T.xk_NoInverse_NoInverse_True) (xx_and (xx_isT (v := true) (T := "ValueError") T.x_NoInverse hz hf rfl (.inl rfl) T.z_isinstance T.z_ValueError (by decide +kernel) T.xt_NoInverse_ValueError_True) (xx_one (xx_not (xx_isC (v := false) T.x_NoInverse hz hf rfl (.inl rfl) T.z_isinstance T.g_BadPrime T.xk_NoInverse_BadPrime_False)))))))
    (xss_one (xs_ret xe_bl)))⟩
theorem ok__law_refused (T : Txt K mg) {fd : FuncData} (F : FunD K "_law_refused" "_law_refused" (defArgs s__law_refused) (defBody s__law_refused) (defScope s__law_refused) [] [] (He.ga K "_law_refused") fd) (D_Field___init__ : Df P w K mg base 2 (He.ma K (He.ga K "Field") "__init__") 2 f_Field___init__) : Df P w K mg base 4 (He.ga K "_law_refused") 1 f__law_refused := by
  refine df_of (ps := ["value"]) (m := m__law_refused) F sc__law_refused rfl (by decide) (fun _ _ _ _ _ _ us hl => match us, hl with | [_], _ => rfl) fun cdv A outer s H E hr => ?_
  exact ⟨_, (xss_cons (xs_try (i := 1) (c := "BadPrime") (v := true) rfl rfl rfl rfl sc__law_refused.nd rfl rfl T.g_HecateError T.xm_BadPrime_HecateError (fun W pn xe tk po => (xss_one (xs_makeX tk T.k_Field D_Field___init__ hr T.g_Field (xl_cons (xe_var 0 rfl (.inl rfl)) xl_nil)))) (fun a oe pn hz hf => (xx_and (xx_isC (v := true) T.x_BadPrime hz hf rfl (.inl rfl) T.z_isinstance T.g_BadPrime T.xk_BadPrime_BadPrime_True) (xx_and (xx_isT (v := true) (T := "ValueError") T.x_BadPrime hz hf rfl (.inl rfl) T.z_isinstance T.z_ValueError (by decide +kernel) T.xt_BadPrime_ValueError_True) (xx_one (xx_not (xx_isC (v := false) T.x_BadPrime hz hf rfl (.inl rfl) T.z_isinstance T.g_BadCurve T.xk_BadPrime_BadCurve_False)))))))
    (xss_one (xs_ret xe_bl)))⟩
theorem ok__law_members (T : Txt K mg) {fd : FuncData} (F : FunD K "_law_members" "_law_members" (defArgs s__law_members) (defBody s__law_members) (defScope s__law_members) [] [] (He.ga K "_law_members") fd)  : Df P w K mg base 1 (He.ga K "_law_members") 1 f__law_members := by
  refine df_of (ps := ["p"]) (m := m__law_members) F sc__law_members rfl (by decide) (fun _ _ _ _ _ _ us hl => match us, hl with | [_], _ => rfl) fun cdv A outer s H E hr => ?_
  exact ⟨_, (xss_cons (xs_set 1 sc__law_members.nd rfl (.inl rfl) (xe_new (xf_lst xl_nil)))
    (xss_cons (xs_for passes_fn rfl (xi_rng1 T.z_range (xe_var 0 rfl (.inl rfl))) (xg_name 2 sc__law_members.nd rfl (.inr rfl)) (xss_one (xs_set 1 sc__law_members.nd rfl (.inl rfl) (xe_new (xf_catD (xe_var 1 rfl (.inl rfl)) (xe_new (xf_lc (own := [("v", 3)]) rfl sc__law_members.nd (xi_rng1 T.z_range (xe_var 0 rfl (.inl rfl))) (blkOk_by (N := N__law_members) (sc := defScope s__law_members) (by decide +kernel)) (fun _ _ _ _ _ => (xg_name 3 sc__law_members.nd rfl (.inl rfl))) (fun _ _ _ _ _ => xts_nil) (fun _ _ _ _ _ => (xe_tup (xl_cons (xe_var 2 rfl (.inr (.inl rfl))) (xl_cons (xe_var 3 rfl (.inl rfl)) xl_nil)))) (by decide))))))))
    (xss_one (xs_ret (xe_var 1 rfl (.inl rfl))))))⟩
theorem ok__law_rest (T : Txt K mg) {fd : FuncData} (F : FunD K "_law_rest" "_law_rest" (defArgs s__law_rest) (defBody s__law_rest) (defScope s__law_rest) [] [] (He.ga K "_law_rest") fd)  : Df P w K mg base 1 (He.ga K "_law_rest") 1 f__law_rest := by
  refine df_of (ps := ["p"]) (m := m__law_rest) F sc__law_rest rfl (by decide) (fun _ _ _ _ _ _ us hl => match us, hl with | [_], _ => rfl) fun cdv A outer s H E hr => ?_
  exact ⟨_, (xss_one (xs_ret (xe_ix (xe_tup (xl_cons xe_int (xl_cons xe_int (xl_cons xe_int (xl_cons xe_int (xl_cons xe_int (xl_cons xe_int (xl_cons xe_int (xl_cons xe_int (xl_cons xe_int (xl_cons xe_int (xl_cons xe_int (xl_cons xe_int (xl_cons xe_int (xl_cons xe_int (xl_cons xe_int (xl_cons xe_int (xl_cons xe_int (xl_cons xe_int (xl_cons xe_int (xl_cons xe_int (xl_cons xe_int (xl_cons xe_int (xl_cons xe_int (xl_cons xe_int (xl_cons xe_int (xl_cons xe_int (xl_cons xe_int (xl_cons xe_int (xl_cons xe_int (xl_cons xe_int (xl_cons xe_int (xl_cons xe_int (xl_cons xe_int (xl_cons xe_int (xl_cons xe_int (xl_cons xe_int (xl_cons xe_int (xl_cons xe_int (xl_cons xe_int (xl_cons xe_int (xl_cons xe_int (xl_cons xe_int (xl_cons xe_int (xl_cons xe_int (xl_cons xe_int (xl_cons xe_int (xl_cons xe_int (xl_cons xe_int (xl_cons xe_int (xl_cons xe_int (xl_cons xe_int (xl_cons xe_int (xl_cons xe_int (xl_cons xe_int (xl_cons xe_int (xl_cons xe_int (xl_cons xe_int (xl_cons xe_int (xl_cons xe_int (xl_cons xe_int (xl_cons xe_int (xl_cons xe_int (xl_cons xe_int (xl_cons xe_int (xl_cons xe_int (xl_cons xe_int (xl_cons xe_int (xl_cons xe_int (xl_cons xe_int (xl_cons xe_int (xl_cons xe_int (xl_cons xe_int (xl_cons xe_int (xl_cons xe_int (xl_cons xe_int (xl_cons xe_int (xl_cons xe_int (xl_cons xe_int (xl_cons xe_int (xl_cons xe_int (xl_cons xe_int (xl_cons xe_int (xl_cons xe_int (xl_cons xe_int (xl_cons xe_int (xl_cons xe_int (xl_cons xe_int (xl_cons xe_int (xl_cons xe_int (xl_cons xe_int (xl_cons xe_int (xl_cons xe_int (xl_cons xe_int (xl_cons xe_int (xl_cons xe_int (xl_cons xe_int (xl_cons xe_int (xl_cons xe_int (xl_cons xe_int (xl_cons xe_int xl_nil))))))))))))))))))))))))))))))))))))))))))))))))))))))))))))))))))))))))))))))))))))))))))))))))))))) (xe_var 0 rfl (.inl rfl)))))⟩
theorem ok__law_member (T : Txt K mg) {fd : FuncData} (F : FunD K "_law_member" "_law_member" (defArgs s__law_member) (defBody s__law_member) (defScope s__law_member) [] [] (He.ga K "_law_member") fd)  : Df P w K mg base 1 (He.ga K "_law_member") 3 f__law_member := by
  refine df_of (ps := ["p", "one", "two"]) (m := m__law_member) F sc__law_member rfl (by decide) (fun _ _ _ _ _ _ us hl => match us, hl with | [_, _, _], _ => rfl) fun cdv A outer s H E hr => ?_
  exact ⟨_, (xss_cons (xs_set 3 sc__law_member.nd rfl (.inl rfl) (xe_ix (xe_new (xf_lst (xl_cons xe_int (xl_cons xe_int (xl_cons (xe_sub (xe_var 0 rfl (.inl rfl)) xe_int) (xl_cons (xe_mod (xe_intc T.z_int (xe_fdiv (xe_var 1 rfl (.inl rfl)) xe_int)) (xe_var 0 rfl (.inl rfl))) (xl_cons (xe_mod (xe_intc T.z_int (xe_fdiv (xe_var 1 rfl (.inl rfl)) xe_int)) (xe_var 0 rfl (.inl rfl))) (xl_cons (xe_mod (xe_intc T.z_int (xe_fdiv (xe_var 1 rfl (.inl rfl)) xe_int)) (xe_var 0 rfl (.inl rfl))) xl_nil)))))))) (xe_mod (xe_intc T.z_int (xe_var 1 rfl (.inl rfl))) xe_int)))
    (xss_cons (xs_set 4 sc__law_member.nd rfl (.inl rfl) (xe_ix (xe_new (xf_lst (xl_cons xe_int (xl_cons (xe_mod (xe_intc T.z_int (xe_fdiv (xe_var 2 rfl (.inl rfl)) xe_int)) (xe_var 0 rfl (.inl rfl))) (xl_cons (xe_mod (xe_intc T.z_int (xe_fdiv (xe_var 2 rfl (.inl rfl)) xe_int)) (xe_var 0 rfl (.inl rfl))) (xl_cons (xe_sub (xe_var 0 rfl (.inl rfl)) xe_int) xl_nil)))))) (xe_mod (xe_intc T.z_int (xe_var 2 rfl (.inl rfl))) xe_int)))
    (xss_one (xs_ret (xe_tup (xl_cons (xe_var 3 rfl (.inl rfl)) (xl_cons (xe_var 4 rfl (.inl rfl)) xl_nil)))))))⟩
theorem ok__law_is_member (T : Txt K mg) {fd : FuncData} (F : FunD K "_law_is_member" "_law_is_member" (defArgs s__law_is_member) (defBody s__law_is_member) (defScope s__law_is_member) [] [] (He.ga K "_law_is_member") fd)  : Df P w K mg base 1 (He.ga K "_law_is_member") 2 f__law_is_member := by
  refine df_of (ps := ["p", "value"]) (m := m__law_is_member) F sc__law_is_member rfl (by decide) (fun _ _ _ _ _ _ us hl => match us, hl with | [_, _], _ => rfl) fun cdv A outer s H E hr => ?_
  exact ⟨_, (xss_cons (xs_if (xt_w (xw_or (xt_not (xt_val (xe_isi (T := "tuple") T.z_isinstance T.z_tuple (by decide +kernel) (xe_var 1 rfl (.inl rfl))))) (xw_or1 (xt_ne hr.units (xe_len T.z_len (xe_var 1 rfl (.inl rfl))) xe_int)))) (xss_one (xs_ret xe_bl)) xss_nil)
    (xss_one (xs_ret (xe_all rfl T.z_all (xe_new (xf_lc (own := [("one", 2)]) rfl sc__law_is_member.nd (xi_seq (xe_var 1 rfl (.inl rfl))) (blkOk_by (N := N__law_is_member) (sc := defScope s__law_is_member) (by decide +kernel)) (fun _ _ _ _ _ => (xg_name 2 sc__law_is_member.nd rfl (.inl rfl))) (fun _ _ _ _ _ => xts_nil) (fun _ _ _ _ _ => (xe_and (xe_isi (T := "int") T.z_isinstance T.z_int (by decide +kernel) (xe_var 2 rfl (.inl rfl))) (xe_and (xe_not (xe_isi (T := "bool") T.z_isinstance T.z_bool (by decide +kernel) (xe_var 2 rfl (.inl rfl)))) (xe_and (xe_le xe_int (xe_var 2 rfl (.inl rfl))) (xe_one (xe_lt (xe_var 2 rfl (.inl rfl)) (xe_var 0 rfl (.inr (.inl rfl))))))))) (by decide)))))))⟩
theorem ok__law_same (T : Txt K mg) {fd : FuncData} (F : FunD K "_law_same" "_law_same" (defArgs s__law_same) (defBody s__law_same) (defScope s__law_same) [] [] (He.ga K "_law_same") fd) (D__law_is_member : Df P w K mg base 1 (He.ga K "_law_is_member") 2 f__law_is_member) : Df P w K mg base 2 (He.ga K "_law_same") 3 f__law_same := by
  refine df_of (ps := ["p", "found", "due"]) (m := m__law_same) F sc__law_same rfl (by decide) (fun _ _ _ _ _ _ us hl => match us, hl with | [_, _, _], _ => rfl) fun cdv A outer s H E hr => ?_
  exact ⟨_, (xss_one (xs_ret (xe_and (xe_call D__law_is_member hr T.g__law_is_member (xl_cons (xe_var 0 rfl (.inl rfl)) (xl_cons (xe_var 1 rfl (.inl rfl)) xl_nil))) (xe_one (xe_eq hr.units (xe_var 1 rfl (.inl rfl)) (xe_var 2 rfl (.inl rfl)))))))⟩
theorem ok_Field_turned (T : Txt K mg) {fd : FuncData} (F : FunD K "turned" "Field.turned" (defArgs s_Field_turned) (defBody s_Field_turned) (defScope s_Field_turned) [] [] (He.ma K (He.ga K "Field") "turned") fd)  : Df P w K mg base 1 (He.ma K (He.ga K "Field") "turned") 2 f_Field_turned := by
  refine df_of (ps := ["self", "a"]) (m := m_Field_turned) F sc_Field_turned rfl (by decide) (fun _ _ _ _ _ _ us hl => match us, hl with | [_, _], _ => rfl) fun cdv A outer s H E hr => ?_
  exact ⟨_, (xss_one (xs_ret (xe_tup (xl_cons (xe_ix (xe_var 1 rfl (.inl rfl)) xe_int) (xl_cons (xe_mod (xe_sub xe_int (xe_ix (xe_var 1 rfl (.inl rfl)) xe_int)) (xe_fld T.c_Field T.n_Field_p (xe_var 0 rfl (.inl rfl)))) xl_nil)))))⟩
theorem ok__law_times (T : Txt K mg) {fd : FuncData} (F : FunD K "_law_times" "_law_times" (defArgs s__law_times) (defBody s__law_times) (defScope s__law_times) [] [] (He.ga K "_law_times") fd) (D__law_rest : Df P w K mg base 1 (He.ga K "_law_rest") 1 f__law_rest) : Df P w K mg base 2 (He.ga K "_law_times") 3 f__law_times := by
  refine df_of (ps := ["p", "a", "b"]) (m := m__law_times) F sc__law_times rfl (by decide) (fun _ _ _ _ _ _ us hl => match us, hl with | [_, _, _], _ => rfl) fun cdv A outer s H E hr => ?_
  exact ⟨_, (xss_cons (xs_set 3 sc__law_times.nd rfl (.inl rfl) (xe_call D__law_rest hr T.g__law_rest (xl_cons (xe_var 0 rfl (.inl rfl)) xl_nil)))
    (xss_one (xs_ret (xe_tup (xl_cons (xe_mod (xe_intc T.z_int (xe_add (xe_mul (xe_ix (xe_var 1 rfl (.inl rfl)) xe_int) (xe_ix (xe_var 2 rfl (.inl rfl)) xe_int)) (xe_mul (xe_mul (xe_var 3 rfl (.inl rfl)) (xe_ix (xe_var 1 rfl (.inl rfl)) xe_int)) (xe_ix (xe_var 2 rfl (.inl rfl)) xe_int)))) (xe_var 0 rfl (.inl rfl))) (xl_cons (xe_mod (xe_intc T.z_int (xe_add (xe_mul (xe_ix (xe_var 1 rfl (.inl rfl)) xe_int) (xe_ix (xe_var 2 rfl (.inl rfl)) xe_int)) (xe_mul (xe_ix (xe_var 1 rfl (.inl rfl)) xe_int) (xe_ix (xe_var 2 rfl (.inl rfl)) xe_int)))) (xe_var 0 rfl (.inl rfl))) xl_nil))))))⟩
theorem ok__law_repeated (T : Txt K mg) {fd : FuncData} (F : FunD K "_law_repeated" "_law_repeated" (defArgs s__law_repeated) (defBody s__law_repeated) (defScope s__law_repeated) [] [] (He.ga K "_law_repeated") fd) (D__law_times : Df P w K mg base 2 (He.ga K "_law_times") 3 f__law_times) : Df P w K mg base 3 (He.ga K "_law_repeated") 3 f__law_repeated := by
  refine df_of (ps := ["p", "a", "n"]) (m := m__law_repeated) F sc__law_repeated rfl (by decide) (fun _ _ _ _ _ _ us hl => match us, hl with | [_, _, _], _ => rfl) fun cdv A outer s H E hr => ?_
  exact ⟨_, (xss_cons (xs_set 3 sc__law_repeated.nd rfl (.inl rfl) (xe_tup (xl_cons xe_int (xl_cons xe_int xl_nil))))
    (xss_cons (xs_for passes_fn rfl (xi_rng1 T.z_range (xe_var 2 rfl (.inl rfl))) (xg_name 4 sc__law_repeated.nd rfl (.inl rfl)) (xss_one (xs_set 3 sc__law_repeated.nd rfl (.inl rfl) (xe_call D__law_times hr T.g__law_times (xl_cons (xe_var 0 rfl (.inl rfl)) (xl_cons (xe_var 3 rfl (.inl rfl)) (xl_cons (xe_var 1 rfl (.inl rfl)) xl_nil)))))))
    (xss_one (xs_ret (xe_var 3 rfl (.inl rfl))))))⟩
theorem ok_Field_number (T : Txt K mg) {fd : FuncData} (F : FunD K "number" "Field.number" (defArgs s_Field_number) (defBody s_Field_number) (defScope s_Field_number) [] [] (He.ma K (He.ga K "Field") "number") fd)  : Df P w K mg base 1 (He.ma K (He.ga K "Field") "number") 2 f_Field_number := by
  refine df_of (ps := ["self", "n"]) (m := m_Field_number) F sc_Field_number rfl (by decide) (fun _ _ _ _ _ _ us hl => match us, hl with | [_, _], _ => rfl) fun cdv A outer s H E hr => ?_
  exact ⟨_, (xss_one (xs_ret (xe_tup (xl_cons (xe_mod (xe_var 1 rfl (.inl rfl)) (xe_fld T.c_Field T.n_Field_p (xe_var 0 rfl (.inl rfl)))) (xl_cons xe_int xl_nil)))))⟩
theorem ok_Field_plus (T : Txt K mg) {fd : FuncData} (F : FunD K "plus" "Field.plus" (defArgs s_Field_plus) (defBody s_Field_plus) (defScope s_Field_plus) [] [] (He.ma K (He.ga K "Field") "plus") fd)  : Df P w K mg base 1 (He.ma K (He.ga K "Field") "plus") 3 f_Field_plus := by
  refine df_of (ps := ["self", "a", "b"]) (m := m_Field_plus) F sc_Field_plus rfl (by decide) (fun _ _ _ _ _ _ us hl => match us, hl with | [_, _, _], _ => rfl) fun cdv A outer s H E hr => ?_
  exact ⟨_, (xss_one (xs_ret (xe_tup (xl_cons (xe_mod (xe_add (xe_ix (xe_var 1 rfl (.inl rfl)) xe_int) (xe_ix (xe_var 2 rfl (.inl rfl)) xe_int)) (xe_fld T.c_Field T.n_Field_p (xe_var 0 rfl (.inl rfl)))) (xl_cons (xe_mod (xe_add (xe_ix (xe_var 1 rfl (.inl rfl)) xe_int) (xe_ix (xe_var 2 rfl (.inl rfl)) xe_int)) (xe_fld T.c_Field T.n_Field_p (xe_var 0 rfl (.inl rfl)))) xl_nil)))))⟩
theorem ok__law_plus (T : Txt K mg) {fd : FuncData} (F : FunD K "_law_plus" "_law_plus" (defArgs s__law_plus) (defBody s__law_plus) (defScope s__law_plus) [] [] (He.ga K "_law_plus") fd)  : Df P w K mg base 1 (He.ga K "_law_plus") 3 f__law_plus := by
  refine df_of (ps := ["p", "a", "b"]) (m := m__law_plus) F sc__law_plus rfl (by decide) (fun _ _ _ _ _ _ us hl => match us, hl with | [_, _, _], _ => rfl) fun cdv A outer s H E hr => ?_
  exact ⟨_, (xss_one (xs_ret (xe_tup (xl_cons (xe_mod (xe_intc T.z_int (xe_add (xe_ix (xe_var 1 rfl (.inl rfl)) xe_int) (xe_ix (xe_var 2 rfl (.inl rfl)) xe_int))) (xe_var 0 rfl (.inl rfl))) (xl_cons (xe_mod (xe_intc T.z_int (xe_add (xe_ix (xe_var 1 rfl (.inl rfl)) xe_int) (xe_ix (xe_var 2 rfl (.inl rfl)) xe_int))) (xe_var 0 rfl (.inl rfl))) xl_nil)))))⟩
theorem ok_Field_minus (T : Txt K mg) {fd : FuncData} (F : FunD K "minus" "Field.minus" (defArgs s_Field_minus) (defBody s_Field_minus) (defScope s_Field_minus) [] [] (He.ma K (He.ga K "Field") "minus") fd)  : Df P w K mg base 1 (He.ma K (He.ga K "Field") "minus") 3 f_Field_minus := by
  refine df_of (ps := ["self", "a", "b"]) (m := m_Field_minus) F sc_Field_minus rfl (by decide) (fun _ _ _ _ _ _ us hl => match us, hl with | [_, _, _], _ => rfl) fun cdv A outer s H E hr => ?_
  exact ⟨_, (xss_one (xs_ret (xe_tup (xl_cons (xe_mod (xe_sub (xe_ix (xe_var 1 rfl (.inl rfl)) xe_int) (xe_ix (xe_var 2 rfl (.inl rfl)) xe_int)) (xe_fld T.c_Field T.n_Field_p (xe_var 0 rfl (.inl rfl)))) (xl_cons (xe_mod (xe_sub (xe_ix (xe_var 1 rfl (.inl rfl)) xe_int) (xe_ix (xe_var 2 rfl (.inl rfl)) xe_int)) (xe_fld T.c_Field T.n_Field_p (xe_var 0 rfl (.inl rfl)))) xl_nil)))))⟩
theorem ok__law_minus (T : Txt K mg) {fd : FuncData} (F : FunD K "_law_minus" "_law_minus" (defArgs s__law_minus) (defBody s__law_minus) (defScope s__law_minus) [] [] (He.ga K "_law_minus") fd)  : Df P w K mg base 1 (He.ga K "_law_minus") 3 f__law_minus := by
  refine df_of (ps := ["p", "a", "b"]) (m := m__law_minus) F sc__law_minus rfl (by decide) (fun _ _ _ _ _ _ us hl => match us, hl with | [_, _, _], _ => rfl) fun cdv A outer s H E hr => ?_
  exact ⟨_, (xss_one (xs_ret (xe_tup (xl_cons (xe_mod (xe_intc T.z_int (xe_sub (xe_ix (xe_var 1 rfl (.inl rfl)) xe_int) (xe_ix (xe_var 2 rfl (.inl rfl)) xe_int))) (xe_var 0 rfl (.inl rfl))) (xl_cons (xe_mod (xe_intc T.z_int (xe_sub (xe_ix (xe_var 1 rfl (.inl rfl)) xe_int) (xe_ix (xe_var 2 rfl (.inl rfl)) xe_int))) (xe_var 0 rfl (.inl rfl))) xl_nil)))))⟩
theorem ok_Field_times (T : Txt K mg) {fd : FuncData} (F : FunD K "times" "Field.times" (defArgs s_Field_times) (defBody s_Field_times) (defScope s_Field_times) [] [] (He.ma K (He.ga K "Field") "times") fd)  : Df P w K mg base 1 (He.ma K (He.ga K "Field") "times") 3 f_Field_times := by
  refine df_of (ps := ["self", "a", "b"]) (m := m_Field_times) F sc_Field_times rfl (by decide) (fun _ _ _ _ _ _ us hl => match us, hl with | [_, _, _], _ => rfl) fun cdv A outer s H E hr => ?_
  exact ⟨_, (xss_one (xs_ret (xe_tup (xl_cons (xe_mod (xe_add (xe_mul (xe_ix (xe_var 1 rfl (.inl rfl)) xe_int) (xe_ix (xe_var 2 rfl (.inl rfl)) xe_int)) (xe_mul (xe_mul (xe_fld T.c_Field T.n_Field_rest (xe_var 0 rfl (.inl rfl))) (xe_ix (xe_var 1 rfl (.inl rfl)) xe_int)) (xe_ix (xe_var 2 rfl (.inl rfl)) xe_int))) (xe_fld T.c_Field T.n_Field_p (xe_var 0 rfl (.inl rfl)))) (xl_cons (xe_mod (xe_add (xe_mul (xe_ix (xe_var 1 rfl (.inl rfl)) xe_int) (xe_ix (xe_var 2 rfl (.inl rfl)) xe_int)) (xe_mul (xe_ix (xe_var 1 rfl (.inl rfl)) xe_int) (xe_ix (xe_var 2 rfl (.inl rfl)) xe_int))) (xe_fld T.c_Field T.n_Field_p (xe_var 0 rfl (.inl rfl)))) xl_nil)))))⟩
theorem ok_Field_power (T : Txt K mg) {fd : FuncData} (F : FunD K "power" "Field.power" (defArgs s_Field_power) (defBody s_Field_power) (defScope s_Field_power) [] [] (He.ma K (He.ga K "Field") "power") fd) (D_Field_times : Df P w K mg base 1 (He.ma K (He.ga K "Field") "times") 3 f_Field_times) : Df P w K mg base 2 (He.ma K (He.ga K "Field") "power") 3 f_Field_power := by
  obtain ⟨v_ONE, G_ONE⟩ := T.v_ONE
  refine df_of (ps := ["self", "a", "n"]) (m := m_Field_power) F sc_Field_power rfl (by decide) (fun _ _ _ _ _ _ us hl => match us, hl with | [_, _, _], _ => rfl) fun cdv A outer s H E hr => ?_
  exact ⟨_, (xss_cons (xs_set 3 sc_Field_power.nd rfl (.inl rfl) (xe_glob G_ONE))
    (xss_cons (xs_while fuel passes_fn (xt_gt (xe_var 2 rfl (.inl rfl)) xe_int) (xss_cons (xs_if (xt_eq hr.units (xe_mod (xe_var 2 rfl (.inl rfl)) xe_int) xe_int) (xss_one (xs_set 3 sc_Field_power.nd rfl (.inl rfl) (xe_meth T.c_Field T.m_Field_times D_Field_times hr (xe_var 0 rfl (.inl rfl)) (xl_cons (xe_var 3 rfl (.inl rfl)) (xl_cons (xe_var 1 rfl (.inl rfl)) xl_nil))))) xss_nil)
    (xss_cons (xs_set 1 sc_Field_power.nd rfl (.inl rfl) (xe_meth T.c_Field T.m_Field_times D_Field_times hr (xe_var 0 rfl (.inl rfl)) (xl_cons (xe_var 1 rfl (.inl rfl)) (xl_cons (xe_var 1 rfl (.inl rfl)) xl_nil))))
    (xss_one (xs_aug 2 pip_fdiv bs_fdivS sc_Field_power.nd rfl (.inl rfl) xe_int)))))
    (xss_one (xs_ret (xe_var 3 rfl (.inl rfl))))))⟩
theorem ok_law (T : Txt K mg) {fd : FuncData} (F : FunD K "law" "law" (defArgs s_law) (defBody s_law) (defScope s_law) [] [] (He.ga K "law") fd) (D__law_draws : Df P w K mg base 4 (He.ga K "_law_draws") 2 f__law_draws) (D__law_prime : Df P w K mg base 4 (He.ga K "_law_prime") 2 f__law_prime) (D_Field___init__ : Df P w K mg base 3 (He.ma K (He.ga K "Field") "__init__") 2 f_Field___init__) (D_Field_members : Df P w K mg base 4 (He.ma K (He.ga K "Field") "members") 1 f_Field_members) (D__law_no_inverse : Df P w K mg base 4 (He.ga K "_law_no_inverse") 1 f__law_no_inverse) (D__law_refused : Df P w K mg base 4 (He.ga K "_law_refused") 1 f__law_refused) (D__law_members : Df P w K mg base 4 (He.ga K "_law_members") 1 f__law_members) (D__law_rest : Df P w K mg base 4 (He.ga K "_law_rest") 1 f__law_rest) (D__law_member : Df P w K mg base 4 (He.ga K "_law_member") 3 f__law_member) (D__law_same : Df P w K mg base 4 (He.ga K "_law_same") 3 f__law_same) (D_Field_turned : Df P w K mg base 4 (He.ma K (He.ga K "Field") "turned") 2 f_Field_turned) (D__law_repeated : Df P w K mg base 4 (He.ga K "_law_repeated") 3 f__law_repeated) (D__law_is_member : Df P w K mg base 4 (He.ga K "_law_is_member") 2 f__law_is_member) (D_Field_number : Df P w K mg base 4 (He.ma K (He.ga K "Field") "number") 2 f_Field_number) (D_Field_plus : Df P w K mg base 4 (He.ma K (He.ga K "Field") "plus") 3 f_Field_plus) (D__law_plus : Df P w K mg base 4 (He.ga K "_law_plus") 3 f__law_plus) (D_Field_minus : Df P w K mg base 4 (He.ma K (He.ga K "Field") "minus") 3 f_Field_minus) (D__law_minus : Df P w K mg base 4 (He.ga K "_law_minus") 3 f__law_minus) (D_Field_times : Df P w K mg base 4 (He.ma K (He.ga K "Field") "times") 3 f_Field_times) (D__law_times : Df P w K mg base 4 (He.ga K "_law_times") 3 f__law_times) (D_Field_power : Df P w K mg base 4 (He.ma K (He.ga K "Field") "power") 3 f_Field_power) (D_Field_inverse : Df P w K mg base 4 (He.ma K (He.ga K "Field") "inverse") 2 f_Field_inverse) : FnOk P w K mg base (L2.CX P w) 5 (He.ga K "law") fd ["script"] (spD K 1 f_law) := by
  refine fn_of (ps := ["script"]) (m := m_law) F sc_law rfl (by decide) fun cdv A outer s H E hr => ?_
  exact ⟨_, (xss_cons (xs_set 1 sc_law.nd rfl (.inl rfl) (xe_call D__law_draws hr T.g__law_draws (xl_cons (xe_var 0 rfl (.inl rfl)) (xl_cons xe_int xl_nil))))
    (xss_cons (xs_set 2 sc_law.nd rfl (.inr rfl) (xe_call D__law_prime hr T.g__law_prime (xl_cons (xe_ix (xe_var 1 rfl (.inl rfl)) xe_int) (xl_cons xe_int xl_nil))))
    (xss_cons (xs_set 3 sc_law.nd rfl (.inl rfl) (xe_make T.k_Field D_Field___init__ hr T.g_Field (xl_cons (xe_var 2 rfl (.inr (.inl rfl))) xl_nil)))
    (xss_cons (xs_set 4 sc_law.nd rfl (.inr rfl) (xe_new (xf_lc (own := [("x", 12)]) rfl sc_law.nd (xi_rng1 T.z_range (xe_var 2 rfl (.inr (.inl rfl)))) (blkOk_by (N := N_law) (sc := defScope s_law) (by decide +kernel)) (fun _ _ _ _ _ => (xg_name 12 sc_law.nd rfl (.inl rfl))) (fun _ _ _ _ _ => xts_nil) (fun _ _ _ _ _ => (xe_mod (xe_intc T.z_int (xe_mul (xe_var 12 rfl (.inl rfl)) (xe_var 12 rfl (.inl rfl)))) (xe_var 2 rfl (.inr (.inl rfl))))) (by decide))))
    (xss_cons (xs_if (xt_w (xw_or (xt_ne hr.units (xe_fld T.c_Field T.n_Field_p (xe_var 3 rfl (.inl rfl))) (xe_var 2 rfl (.inr (.inl rfl)))) (xw_or (xt_ne hr.units (xe_fld T.c_Field T.n_Field_rest (xe_var 3 rfl (.inl rfl))) (xe_ix (xe_new (xf_lc (own := [("n", 5)]) rfl sc_law.nd (xi_rng2 T.z_range xe_int (xe_var 2 rfl (.inr (.inl rfl)))) (blkOk_by (N := N_law) (sc := defScope s_law) (by decide +kernel)) (fun _ _ _ _ _ => (xg_name 5 sc_law.nd rfl (.inl rfl))) (fun _ _ _ _ _ => (xts_one (xt_nin (xe_var 5 rfl (.inl rfl)) (xe_var 4 rfl (.inr (.inl rfl)))))) (fun _ _ _ _ _ => (xe_var 5 rfl (.inl rfl))) (by decide))) xe_int)) (xw_or1 (xt_val (xe_isi (T := "bool") T.z_isinstance T.z_bool (by decide +kernel) (xe_fld T.c_Field T.n_Field_rest (xe_var 3 rfl (.inl rfl))))))))) (xss_one (xs_ret xe_bl)) xss_nil)
    (xss_cons (xs_setH 6 sc_law.nd rfl (.inl rfl) (xf_meth0 T.c_Field T.m_Field_members D_Field_members hr (xe_var 3 rfl (.inl rfl))))
    (xss_cons (xs_if (xt_w (xw_or (xt_neh 6 hr.units rfl (.inl rfl) (xe_call D__law_members hr T.g__law_members (xl_cons (xe_var 2 rfl (.inr (.inl rfl))) xl_nil))) (xw_or1 (xt_not (xt_val (xe_isih 6 (T := "list") rfl (.inl rfl) T.z_isinstance T.z_list (by decide +kernel))))))) (xss_one (xs_ret xe_bl)) xss_nil)
    (xss_cons (xs_app 6 rfl (.inl rfl) (xe_tup (xl_cons xe_int (xl_cons xe_int xl_nil))) (hp := pe_bm PySem.F.plainAttrs_list PySem.F.slot_list_append PySem.F.type_list_append mt_append (pe_var rfl (.inl rfl)) (pa_cons (xe_tup (xl_cons xe_int (xl_cons xe_int xl_nil))).p pa_nil)))
    (xss_cons (xs_if (xt_w (xw_or (xt_ne hr.units (xe_len T.z_len (xe_meth0 T.c_Field T.m_Field_members D_Field_members hr (xe_var 3 rfl (.inl rfl)))) (xe_mul (xe_var 2 rfl (.inr (.inl rfl))) (xe_var 2 rfl (.inr (.inl rfl))))) (xw_or1 (xt_ne hr.units (xe_fld T.c_Field T.n_Field_rest (xe_var 3 rfl (.inl rfl))) (xe_call D__law_rest hr T.g__law_rest (xl_cons (xe_var 2 rfl (.inr (.inl rfl))) xl_nil)))))) (xss_one (xs_ret xe_bl)) xss_nil)
    (xss_cons (xs_for passes_fn rfl (xi_rng1 T.z_range xe_int) (xg_name 7 sc_law.nd rfl (.inl rfl)) (xss_cons (xs_par 8 9 rfl sc_law.nd rfl rfl (by decide) rfl rfl (xe_call D__law_member hr T.g__law_member (xl_cons (xe_var 2 rfl (.inr (.inl rfl))) (xl_cons (xe_ix (xe_var 1 rfl (.inl rfl)) (xe_add xe_int (xe_mul xe_int (xe_var 7 rfl (.inl rfl))))) (xl_cons (xe_ix (xe_var 1 rfl (.inl rfl)) (xe_add xe_int (xe_mul xe_int (xe_var 7 rfl (.inl rfl))))) xl_nil)))) (xe_call D__law_member hr T.g__law_member (xl_cons (xe_var 2 rfl (.inr (.inl rfl))) (xl_cons (xe_ix (xe_var 1 rfl (.inl rfl)) (xe_add xe_int (xe_mul xe_int (xe_var 7 rfl (.inl rfl))))) (xl_cons (xe_ix (xe_var 1 rfl (.inl rfl)) (xe_add xe_int (xe_mul xe_int (xe_var 7 rfl (.inl rfl))))) xl_nil)))) (by rfl))
    (xss_cons (xs_if (xt_w (xw_or (xt_not (xt_val (xe_call D__law_same hr T.g__law_same (xl_cons (xe_var 2 rfl (.inr (.inl rfl))) (xl_cons (xe_meth T.c_Field T.m_Field_plus D_Field_plus hr (xe_var 3 rfl (.inl rfl)) (xl_cons (xe_var 8 rfl (.inl rfl)) (xl_cons (xe_var 9 rfl (.inl rfl)) xl_nil))) (xl_cons (xe_call D__law_plus hr T.g__law_plus (xl_cons (xe_var 2 rfl (.inr (.inl rfl))) (xl_cons (xe_var 8 rfl (.inl rfl)) (xl_cons (xe_var 9 rfl (.inl rfl)) xl_nil)))) xl_nil)))))) (xw_or1 (xt_not (xt_val (xe_call D__law_same hr T.g__law_same (xl_cons (xe_var 2 rfl (.inr (.inl rfl))) (xl_cons (xe_meth T.c_Field T.m_Field_minus D_Field_minus hr (xe_var 3 rfl (.inl rfl)) (xl_cons (xe_var 8 rfl (.inl rfl)) (xl_cons (xe_var 9 rfl (.inl rfl)) xl_nil))) (xl_cons (xe_call D__law_minus hr T.g__law_minus (xl_cons (xe_var 2 rfl (.inr (.inl rfl))) (xl_cons (xe_var 8 rfl (.inl rfl)) (xl_cons (xe_var 9 rfl (.inl rfl)) xl_nil)))) xl_nil))))))))) (xss_one (xs_ret xe_bl)) xss_nil)
    (xss_cons (xs_set 5 sc_law.nd rfl (.inl rfl) (xe_mod (xe_intc T.z_int (xe_ix (xe_var 1 rfl (.inl rfl)) (xe_add xe_int (xe_mul xe_int (xe_var 7 rfl (.inl rfl)))))) xe_int))
    (xss_cons (xs_if (xt_w (xw_or (xt_not (xt_val (xe_call D__law_same hr T.g__law_same (xl_cons (xe_var 2 rfl (.inr (.inl rfl))) (xl_cons (xe_meth T.c_Field T.m_Field_times D_Field_times hr (xe_var 3 rfl (.inl rfl)) (xl_cons (xe_var 8 rfl (.inl rfl)) (xl_cons (xe_var 9 rfl (.inl rfl)) xl_nil))) (xl_cons (xe_call D__law_times hr T.g__law_times (xl_cons (xe_var 2 rfl (.inr (.inl rfl))) (xl_cons (xe_var 8 rfl (.inl rfl)) (xl_cons (xe_var 9 rfl (.inl rfl)) xl_nil)))) xl_nil)))))) (xw_or1 (xt_not (xt_val (xe_call D__law_same hr T.g__law_same (xl_cons (xe_var 2 rfl (.inr (.inl rfl))) (xl_cons (xe_meth T.c_Field T.m_Field_power D_Field_power hr (xe_var 3 rfl (.inl rfl)) (xl_cons (xe_var 8 rfl (.inl rfl)) (xl_cons (xe_var 5 rfl (.inl rfl)) xl_nil))) (xl_cons (xe_call D__law_repeated hr T.g__law_repeated (xl_cons (xe_var 2 rfl (.inr (.inl rfl))) (xl_cons (xe_var 8 rfl (.inl rfl)) (xl_cons (xe_var 5 rfl (.inl rfl)) xl_nil)))) xl_nil))))))))) (xss_one (xs_ret xe_bl)) xss_nil)
    (xss_cons (xs_if (xt_not (xt_val (xe_call D__law_same hr T.g__law_same (xl_cons (xe_var 2 rfl (.inr (.inl rfl))) (xl_cons (xe_meth T.c_Field T.m_Field_turned D_Field_turned hr (xe_var 3 rfl (.inl rfl)) (xl_cons (xe_var 8 rfl (.inl rfl)) xl_nil)) (xl_cons (xe_call D__law_repeated hr T.g__law_repeated (xl_cons (xe_var 2 rfl (.inr (.inl rfl))) (xl_cons (xe_var 8 rfl (.inl rfl)) (xl_cons (xe_var 2 rfl (.inr (.inl rfl))) xl_nil)))) xl_nil)))))) (xss_one (xs_ret xe_bl)) xss_nil)
    (xss_cons (xs_if (xt_w (xw_and (xt_ne hr.units (xe_var 8 rfl (.inl rfl)) (xe_tup (xl_cons xe_int (xl_cons xe_int xl_nil)))) (xw_and1 (xt_not (xt_val (xe_call D__law_same hr T.g__law_same (xl_cons (xe_var 2 rfl (.inr (.inl rfl))) (xl_cons (xe_call D__law_times hr T.g__law_times (xl_cons (xe_var 2 rfl (.inr (.inl rfl))) (xl_cons (xe_var 8 rfl (.inl rfl)) (xl_cons (xe_meth T.c_Field T.m_Field_inverse D_Field_inverse hr (xe_var 3 rfl (.inl rfl)) (xl_cons (xe_var 8 rfl (.inl rfl)) xl_nil)) xl_nil)))) (xl_cons (xe_tup (xl_cons xe_int (xl_cons xe_int xl_nil))) xl_nil))))))))) (xss_one (xs_ret xe_bl)) xss_nil)
    (xss_cons (xs_if (xt_w (xw_and (xt_ne hr.units (xe_var 8 rfl (.inl rfl)) (xe_tup (xl_cons xe_int (xl_cons xe_int xl_nil)))) (xw_and1 (xt_not (xt_val (xe_call D__law_is_member hr T.g__law_is_member (xl_cons (xe_var 2 rfl (.inr (.inl rfl))) (xl_cons (xe_meth T.c_Field T.m_Field_inverse D_Field_inverse hr (xe_var 3 rfl (.inl rfl)) (xl_cons (xe_var 8 rfl (.inl rfl)) xl_nil)) xl_nil)))))))) (xss_one (xs_ret xe_bl)) xss_nil)
    (xss_cons (xs_set 10 sc_law.nd rfl (.inl rfl) (xe_ix (xe_new (xf_lst (xl_cons (xe_intc T.z_int (xe_ix (xe_var 1 rfl (.inl rfl)) (xe_add xe_int (xe_mul xe_int (xe_var 7 rfl (.inl rfl)))))) (xl_cons (xe_sub xe_int (xe_intc T.z_int (xe_ix (xe_var 1 rfl (.inl rfl)) (xe_add xe_int (xe_mul xe_int (xe_var 7 rfl (.inl rfl))))))) (xl_cons (xe_add (xe_pow xe_int xe_int) (xe_intc T.z_int (xe_ix (xe_var 1 rfl (.inl rfl)) (xe_add xe_int (xe_mul xe_int (xe_var 7 rfl (.inl rfl))))))) xl_nil))))) (xe_mod (xe_intc T.z_int (xe_ix (xe_var 1 rfl (.inl rfl)) (xe_add xe_int (xe_mul xe_int (xe_var 7 rfl (.inl rfl)))))) xe_int)))
    (xss_one (xs_if (xt_not (xt_val (xe_call D__law_same hr T.g__law_same (xl_cons (xe_var 2 rfl (.inr (.inl rfl))) (xl_cons (xe_meth T.c_Field T.m_Field_number D_Field_number hr (xe_var 3 rfl (.inl rfl)) (xl_cons (xe_var 10 rfl (.inl rfl)) xl_nil)) (xl_cons (xe_tup (xl_cons (xe_mod (xe_intc T.z_int (xe_var 10 rfl (.inl rfl))) (xe_var 2 rfl (.inr (.inl rfl)))) (xl_cons xe_int xl_nil))) xl_nil)))))) (xss_one (xs_ret xe_bl)) xss_nil)))))))))))
    (xss_cons (xs_set 11 sc_law.nd rfl (.inl rfl) (xe_new (xf_lst (xl_cons xe_int (xl_cons xe_int (xl_cons xe_int (xl_cons xe_int (xl_cons xe_int (xl_cons xe_int (xl_cons xe_int (xl_cons xe_int (xl_cons xe_int (xl_cons xe_int (xl_cons xe_int (xl_cons (xe_neg xe_int) (xl_cons (xe_add (xe_pow xe_int xe_int) xe_int) (xl_cons xe_bl (xl_cons xe_str (xl_cons xe_non (xl_cons (xe_tup (xl_cons xe_int xl_nil)) (xl_cons xe_int (xl_cons xe_int xl_nil))))))))))))))))))))))
    (xss_one (xs_ret (xe_and (xe_call D__law_no_inverse hr T.g__law_no_inverse (xl_cons (xe_var 3 rfl (.inl rfl)) xl_nil)) (xe_and (xe_call D__law_refused hr T.g__law_refused (xl_cons (xe_ix (xe_var 11 rfl (.inl rfl)) (xe_mod (xe_intc T.z_int (xe_ix (xe_var 1 rfl (.inl rfl)) xe_int)) (xe_len T.z_len (xe_var 11 rfl (.inl rfl))))) xl_nil)) (xe_one (xe_call D__law_refused hr T.g__law_refused (xl_cons (xe_ix (xe_var 11 rfl (.inl rfl)) (xe_mod (xe_intc T.z_int (xe_ix (xe_var 1 rfl (.inl rfl)) xe_int)) (xe_len T.z_len (xe_var 11 rfl (.inl rfl))))) xl_nil))))))))))))))))))⟩
end
end Lk66
set_option Elab.async false
set_option linter.all false
set_option maxRecDepth 100000
set_option maxHeartbeats 0
namespace Lk66
open PySem L2 Pd
def dd__law_draws : He.DefD := ⟨("_law_draws", none), "_law_draws", "_law_draws", defArgs s__law_draws, defBody s__law_draws, defScope s__law_draws, [], []⟩
def dd__law_prime : He.DefD := ⟨("_law_prime", none), "_law_prime", "_law_prime", defArgs s__law_prime, defBody s__law_prime, defScope s__law_prime, [], []⟩
def dd_is_field_prime : He.DefD := ⟨("is_field_prime", none), "is_field_prime", "is_field_prime", defArgs s_is_field_prime, defBody s_is_field_prime, defScope s_is_field_prime, [], []⟩
def dd_Field___init__ : He.DefD := ⟨("Field", some "__init__"), "__init__", "Field.__init__", defArgs s_Field___init__, defBody s_Field___init__, defScope s_Field___init__, [], []⟩
def dd_Field_members : He.DefD := ⟨("Field", some "members"), "members", "Field.members", defArgs s_Field_members, defBody s_Field_members, defScope s_Field_members, [], []⟩
def dd_Field_inverse : He.DefD := ⟨("Field", some "inverse"), "inverse", "Field.inverse", defArgs s_Field_inverse, defBody s_Field_inverse, defScope s_Field_inverse, [], []⟩
def dd__law_no_inverse : He.DefD := ⟨("_law_no_inverse", none), "_law_no_inverse", "_law_no_inverse", defArgs s__law_no_inverse, defBody s__law_no_inverse, defScope s__law_no_inverse, [], []⟩
def dd__law_refused : He.DefD := ⟨("_law_refused", none), "_law_refused", "_law_refused", defArgs s__law_refused, defBody s__law_refused, defScope s__law_refused, [], []⟩
def dd__law_members : He.DefD := ⟨("_law_members", none), "_law_members", "_law_members", defArgs s__law_members, defBody s__law_members, defScope s__law_members, [], []⟩
def dd__law_rest : He.DefD := ⟨("_law_rest", none), "_law_rest", "_law_rest", defArgs s__law_rest, defBody s__law_rest, defScope s__law_rest, [], []⟩
def dd__law_member : He.DefD := ⟨("_law_member", none), "_law_member", "_law_member", defArgs s__law_member, defBody s__law_member, defScope s__law_member, [], []⟩
def dd__law_is_member : He.DefD := ⟨("_law_is_member", none), "_law_is_member", "_law_is_member", defArgs s__law_is_member, defBody s__law_is_member, defScope s__law_is_member, [], []⟩
def dd__law_same : He.DefD := ⟨("_law_same", none), "_law_same", "_law_same", defArgs s__law_same, defBody s__law_same, defScope s__law_same, [], []⟩
def dd_Field_turned : He.DefD := ⟨("Field", some "turned"), "turned", "Field.turned", defArgs s_Field_turned, defBody s_Field_turned, defScope s_Field_turned, [], []⟩
def dd__law_times : He.DefD := ⟨("_law_times", none), "_law_times", "_law_times", defArgs s__law_times, defBody s__law_times, defScope s__law_times, [], []⟩
def dd__law_repeated : He.DefD := ⟨("_law_repeated", none), "_law_repeated", "_law_repeated", defArgs s__law_repeated, defBody s__law_repeated, defScope s__law_repeated, [], []⟩
def dd_Field_number : He.DefD := ⟨("Field", some "number"), "number", "Field.number", defArgs s_Field_number, defBody s_Field_number, defScope s_Field_number, [], []⟩
def dd_Field_plus : He.DefD := ⟨("Field", some "plus"), "plus", "Field.plus", defArgs s_Field_plus, defBody s_Field_plus, defScope s_Field_plus, [], []⟩
def dd__law_plus : He.DefD := ⟨("_law_plus", none), "_law_plus", "_law_plus", defArgs s__law_plus, defBody s__law_plus, defScope s__law_plus, [], []⟩
def dd_Field_minus : He.DefD := ⟨("Field", some "minus"), "minus", "Field.minus", defArgs s_Field_minus, defBody s_Field_minus, defScope s_Field_minus, [], []⟩
def dd__law_minus : He.DefD := ⟨("_law_minus", none), "_law_minus", "_law_minus", defArgs s__law_minus, defBody s__law_minus, defScope s__law_minus, [], []⟩
def dd_Field_times : He.DefD := ⟨("Field", some "times"), "times", "Field.times", defArgs s_Field_times, defBody s_Field_times, defScope s_Field_times, [], []⟩
def dd_Field_power : He.DefD := ⟨("Field", some "power"), "power", "Field.power", defArgs s_Field_power, defBody s_Field_power, defScope s_Field_power, [], []⟩
def dd_law : He.DefD := ⟨("law", none), "law", "law", defArgs s_law, defBody s_law, defScope s_law, [], []⟩
def fn0 : List He.DefD := [dd__law_draws, dd__law_prime, dd_is_field_prime, dd_Field___init__, dd_Field_members, dd_Field_inverse, dd__law_no_inverse, dd__law_refused, dd__law_members, dd__law_rest, dd__law_member, dd__law_is_member, dd__law_same, dd_Field_turned, dd__law_times, dd__law_repeated, dd_Field_number, dd_Field_plus, dd__law_plus, dd_Field_minus, dd__law_minus, dd_Field_times, dd_Field_power, dd_law]
def fn : List He.DefD := fn0
def fa0 : List He.Fa := [.free "range", .free "len", .free "int", .free "abs", .free "all", .free "isinstance", .free "bool", .cls "Field", .noat "Field" "_inverses", .noat "Field" "rest", .free "min", .noat "Field" "p", .glo "is_field_prime", .glo "BadPrime", .exc "BadPrime", .glo "NoInverse", .exc "NoInverse", .meth "Field" "inverse", .free "ValueError", .glo "HecateError", .glo "Field", .mkr "Field", .glo "BadCurve", .free "tuple", .glo "_law_is_member", .glo "_law_rest", .glo "_law_times", .meth "Field" "times", .glo "_law_no_inverse", .glo "_law_refused"]
def fa1 : List He.Fa := [.glo "_law_same", .meth "Field" "number", .glo "_law_repeated", .meth "Field" "turned", .meth "Field" "power", .glo "_law_plus", .meth "Field" "plus", .glo "_law_minus", .meth "Field" "minus", .glo "_law_member", .meth "Field" "members", .glo "_law_members", .free "list", .glo "_law_prime", .glo "_law_draws", .glo "law"]
def fa : List He.Fa := fa0 ++ fa1
def cs0 : List (Str × D) := [("LEAST_PRIME", (.int 5)), ("MOST_PRIME", (.int 97)), ("ZERO", (.tup [(.int 0), (.int 0)])), ("ONE", (.tup [(.int 1), (.int 0)]))]
def cs : List (Str × D) := cs0
def xs0 : List Xf := [.isx "NoInverse", .kit "NoInverse" "NoInverse" true, .kitT "NoInverse" "ValueError" true, .kit "NoInverse" "BadPrime" false, .exm "NoInverse" "HecateError" true, .isx "BadPrime", .kit "BadPrime" "BadPrime" true, .kitT "BadPrime" "ValueError" true, .kit "BadPrime" "BadCurve" false, .exm "BadPrime" "HecateError" true]
def xs : List Xf := xs0
def loose0 : List Str := ["_wall", "__name__", "HecateError", "BadPrime", "NoInverse", "BadCurve", "LEAST_PRIME", "MOST_PRIME", "ZERO", "ONE", "is_field_prime", "Field", "_law_draws", "_law_prime", "_law_rest", "_law_plus", "_law_minus", "_law_times", "_law_member", "_law_is_member", "_law_members", "_law_no_inverse", "_law_refused", "_law_same", "_law_repeated"]
def loose : List Str := loose0
abbrev R : PySem.W.OpenRow := PySem.W.OpenLaw.row PySem.Challenge.rw_hecate_k66_the_field
abbrev hk : PySem.W.Hook := hookQ 28 fa fn cs xs
def ob (s : PySem.W.SharedT) : Bool × (Bool × He.AlD) := obsQ 28 fa fn cs xs (HandSHeadRun.getT s)
theorem ob_eq (s : PySem.W.SharedT) : ob s = hk.obs s.abs := obsQ_eq (HandSHeadRun.getT_eq s)
theorem run (w : World) : HandSHeadRun.RunEq R (PySem.W.view R.prog [27]) hk ob 6000 loose w := by
  intro os
  kernel_rfl
theorem txt_of {K : PySem.W.Frag} {h : Heap} {mg : Str → Option Value} (X : K.In h) (G : h.Ns mainGlobals mg) (c : SaysQ fa fn cs xs K) : Txt K mg where
  z_range := He.free_ok X G (c.2.2.fact 0 (f := .free "range") rfl)
  z_len := He.free_ok X G (c.2.2.fact 1 (f := .free "len") rfl)
  z_int := He.free_ok X G (c.2.2.fact 2 (f := .free "int") rfl)
  z_abs := He.free_ok X G (c.2.2.fact 3 (f := .free "abs") rfl)
  z_all := He.free_ok X G (c.2.2.fact 4 (f := .free "all") rfl)
  z_isinstance := He.free_ok X G (c.2.2.fact 5 (f := .free "isinstance") rfl)
  z_bool := He.free_ok X G (c.2.2.fact 6 (f := .free "bool") rfl)
  v_LEAST_PRIME := conB_ok X G (c.2.con 0 (p := ("LEAST_PRIME", (.int 5))) rfl)
  v_MOST_PRIME := conB_ok X G (c.2.con 1 (p := ("MOST_PRIME", (.int 97))) rfl)
  c_Field := He.cls_ok (c.2.2.fact 7 (f := .cls "Field") rfl)
  n_Field__inverses := He.noat_ok (c.2.2.fact 8 (f := .noat "Field" "_inverses") rfl)
  n_Field_rest := He.noat_ok (c.2.2.fact 9 (f := .noat "Field" "rest") rfl)
  z_min := He.free_ok X G (c.2.2.fact 10 (f := .free "min") rfl)
  n_Field_p := He.noat_ok (c.2.2.fact 11 (f := .noat "Field" "p") rfl)
  g_is_field_prime := He.glo_ok X G (c.2.2.fact 12 (f := .glo "is_field_prime") rfl)
  e_BadPrime := exq_ok X G (c.2.2.fact 13 (f := .glo "BadPrime") rfl) (c.2.2.fact 14 (f := .exc "BadPrime") rfl)
  v_ZERO := conB_ok X G (c.2.con 2 (p := ("ZERO", (.tup [(.int 0), (.int 0)]))) rfl)
  e_NoInverse := exq_ok X G (c.2.2.fact 15 (f := .glo "NoInverse") rfl) (c.2.2.fact 16 (f := .exc "NoInverse") rfl)
  m_Field_inverse := He.meth_ok (c.2.2.fact 17 (f := .meth "Field" "inverse") rfl)
  x_NoInverse := xcB_ok (c.xf 0 (x := .isx "NoInverse") rfl)
  g_NoInverse := He.glo_ok X G (c.2.2.fact 15 (f := .glo "NoInverse") rfl)
  xk_NoInverse_NoInverse_True := of_decide_eq_true (c.xf 1 (x := .kit "NoInverse" "NoInverse" true) rfl)
  z_ValueError := He.free_ok X G (c.2.2.fact 18 (f := .free "ValueError") rfl)
  xt_NoInverse_ValueError_True := of_decide_eq_true (c.xf 2 (x := .kitT "NoInverse" "ValueError" true) rfl)
  g_BadPrime := He.glo_ok X G (c.2.2.fact 13 (f := .glo "BadPrime") rfl)
  xk_NoInverse_BadPrime_False := of_decide_eq_true (c.xf 3 (x := .kit "NoInverse" "BadPrime" false) rfl)
  g_HecateError := He.glo_ok X G (c.2.2.fact 19 (f := .glo "HecateError") rfl)
  xm_NoInverse_HecateError := of_decide_eq_true (c.xf 4 (x := .exm "NoInverse" "HecateError" true) rfl)
  g_Field := He.glo_ok X G (c.2.2.fact 20 (f := .glo "Field") rfl)
  k_Field := He.mkr_ok (c.2.2.fact 21 (f := .mkr "Field") rfl)
  x_BadPrime := xcB_ok (c.xf 5 (x := .isx "BadPrime") rfl)
  xk_BadPrime_BadPrime_True := of_decide_eq_true (c.xf 6 (x := .kit "BadPrime" "BadPrime" true) rfl)
  xt_BadPrime_ValueError_True := of_decide_eq_true (c.xf 7 (x := .kitT "BadPrime" "ValueError" true) rfl)
  g_BadCurve := He.glo_ok X G (c.2.2.fact 22 (f := .glo "BadCurve") rfl)
  xk_BadPrime_BadCurve_False := of_decide_eq_true (c.xf 8 (x := .kit "BadPrime" "BadCurve" false) rfl)
  xm_BadPrime_HecateError := of_decide_eq_true (c.xf 9 (x := .exm "BadPrime" "HecateError" true) rfl)
  z_tuple := He.free_ok X G (c.2.2.fact 23 (f := .free "tuple") rfl)
  g__law_is_member := He.glo_ok X G (c.2.2.fact 24 (f := .glo "_law_is_member") rfl)
  g__law_rest := He.glo_ok X G (c.2.2.fact 25 (f := .glo "_law_rest") rfl)
  g__law_times := He.glo_ok X G (c.2.2.fact 26 (f := .glo "_law_times") rfl)
  m_Field_times := He.meth_ok (c.2.2.fact 27 (f := .meth "Field" "times") rfl)
  v_ONE := conB_ok X G (c.2.con 3 (p := ("ONE", (.tup [(.int 1), (.int 0)]))) rfl)
  g__law_no_inverse := He.glo_ok X G (c.2.2.fact 28 (f := .glo "_law_no_inverse") rfl)
  g__law_refused := He.glo_ok X G (c.2.2.fact 29 (f := .glo "_law_refused") rfl)
  g__law_same := He.glo_ok X G (c.2.2.fact 30 (f := .glo "_law_same") rfl)
  m_Field_number := He.meth_ok (c.2.2.fact 31 (f := .meth "Field" "number") rfl)
  g__law_repeated := He.glo_ok X G (c.2.2.fact 32 (f := .glo "_law_repeated") rfl)
  m_Field_turned := He.meth_ok (c.2.2.fact 33 (f := .meth "Field" "turned") rfl)
  m_Field_power := He.meth_ok (c.2.2.fact 34 (f := .meth "Field" "power") rfl)
  g__law_plus := He.glo_ok X G (c.2.2.fact 35 (f := .glo "_law_plus") rfl)
  m_Field_plus := He.meth_ok (c.2.2.fact 36 (f := .meth "Field" "plus") rfl)
  g__law_minus := He.glo_ok X G (c.2.2.fact 37 (f := .glo "_law_minus") rfl)
  m_Field_minus := He.meth_ok (c.2.2.fact 38 (f := .meth "Field" "minus") rfl)
  g__law_member := He.glo_ok X G (c.2.2.fact 39 (f := .glo "_law_member") rfl)
  m_Field_members := He.meth_ok (c.2.2.fact 40 (f := .meth "Field" "members") rfl)
  g__law_members := He.glo_ok X G (c.2.2.fact 41 (f := .glo "_law_members") rfl)
  z_list := He.free_ok X G (c.2.2.fact 42 (f := .free "list") rfl)
  g__law_prime := He.glo_ok X G (c.2.2.fact 43 (f := .glo "_law_prime") rfl)
  g__law_draws := He.glo_ok X G (c.2.2.fact 44 (f := .glo "_law_draws") rfl)
theorem chain {P : Program} {w : World} {K : PySem.W.Frag} {mg : Str → Option Value} {h : Heap} (X : K.In h) (G : h.Ns mainGlobals mg) (c : SaysQ fa fn cs xs K) : ∃ fd, (∀ (s : Shared) (v : Value), BindsTo s fd ⟨[v], []⟩ [("script", v)]) ∧ ∀ base : Heap, FnOk P w K mg base (CXe P) 5 (He.ga K "law") fd ["script"] (spD K 1 f_law) := by
  have T := txt_of X G c
  obtain ⟨fd__law_draws, F__law_draws⟩ := c.2.2.def_ 0 (d := dd__law_draws) rfl
  obtain ⟨fd__law_prime, F__law_prime⟩ := c.2.2.def_ 1 (d := dd__law_prime) rfl
  obtain ⟨fd_is_field_prime, F_is_field_prime⟩ := c.2.2.def_ 2 (d := dd_is_field_prime) rfl
  obtain ⟨fd_Field___init__, F_Field___init__⟩ := c.2.2.def_ 3 (d := dd_Field___init__) rfl
  obtain ⟨fd_Field_members, F_Field_members⟩ := c.2.2.def_ 4 (d := dd_Field_members) rfl
  obtain ⟨fd_Field_inverse, F_Field_inverse⟩ := c.2.2.def_ 5 (d := dd_Field_inverse) rfl
  obtain ⟨fd__law_no_inverse, F__law_no_inverse⟩ := c.2.2.def_ 6 (d := dd__law_no_inverse) rfl
  obtain ⟨fd__law_refused, F__law_refused⟩ := c.2.2.def_ 7 (d := dd__law_refused) rfl
  obtain ⟨fd__law_members, F__law_members⟩ := c.2.2.def_ 8 (d := dd__law_members) rfl
  obtain ⟨fd__law_rest, F__law_rest⟩ := c.2.2.def_ 9 (d := dd__law_rest) rfl
  obtain ⟨fd__law_member, F__law_member⟩ := c.2.2.def_ 10 (d := dd__law_member) rfl
  obtain ⟨fd__law_is_member, F__law_is_member⟩ := c.2.2.def_ 11 (d := dd__law_is_member) rfl
  obtain ⟨fd__law_same, F__law_same⟩ := c.2.2.def_ 12 (d := dd__law_same) rfl
  obtain ⟨fd_Field_turned, F_Field_turned⟩ := c.2.2.def_ 13 (d := dd_Field_turned) rfl
  obtain ⟨fd__law_times, F__law_times⟩ := c.2.2.def_ 14 (d := dd__law_times) rfl
  obtain ⟨fd__law_repeated, F__law_repeated⟩ := c.2.2.def_ 15 (d := dd__law_repeated) rfl
  obtain ⟨fd_Field_number, F_Field_number⟩ := c.2.2.def_ 16 (d := dd_Field_number) rfl
  obtain ⟨fd_Field_plus, F_Field_plus⟩ := c.2.2.def_ 17 (d := dd_Field_plus) rfl
  obtain ⟨fd__law_plus, F__law_plus⟩ := c.2.2.def_ 18 (d := dd__law_plus) rfl
  obtain ⟨fd_Field_minus, F_Field_minus⟩ := c.2.2.def_ 19 (d := dd_Field_minus) rfl
  obtain ⟨fd__law_minus, F__law_minus⟩ := c.2.2.def_ 20 (d := dd__law_minus) rfl
  obtain ⟨fd_Field_times, F_Field_times⟩ := c.2.2.def_ 21 (d := dd_Field_times) rfl
  obtain ⟨fd_Field_power, F_Field_power⟩ := c.2.2.def_ 22 (d := dd_Field_power) rfl
  obtain ⟨fd_law, F_law⟩ := c.2.2.def_ 23 (d := dd_law) rfl
  have b := FunD.bindsA (ps := ["script"]) F_law fun _ _ _ _ _ _ us hl => match us, hl with | [_], _ => rfl
  refine ⟨fd_law, fun s v => b s [v] rfl, fun base => ?_⟩
  have D__law_draws : Df P w K mg base 1 (He.ga K "_law_draws") 2 f__law_draws := ok__law_draws T F__law_draws 
  have D__law_prime : Df P w K mg base 1 (He.ga K "_law_prime") 2 f__law_prime := ok__law_prime T F__law_prime 
  have D_is_field_prime : Df P w K mg base 1 (He.ga K "is_field_prime") 1 f_is_field_prime := ok_is_field_prime T F_is_field_prime 
  have D_Field___init__ : Df P w K mg base 2 (He.ma K (He.ga K "Field") "__init__") 2 f_Field___init__ := ok_Field___init__ T F_Field___init__ (D_is_field_prime.mono (by decide))
  have D_Field_members : Df P w K mg base 1 (He.ma K (He.ga K "Field") "members") 1 f_Field_members := ok_Field_members T F_Field_members 
  have D_Field_inverse : Df P w K mg base 1 (He.ma K (He.ga K "Field") "inverse") 2 f_Field_inverse := ok_Field_inverse T F_Field_inverse 
  have D__law_no_inverse : Df P w K mg base 2 (He.ga K "_law_no_inverse") 1 f__law_no_inverse := ok__law_no_inverse T F__law_no_inverse (D_Field_inverse.mono (by decide))
  have D__law_refused : Df P w K mg base 4 (He.ga K "_law_refused") 1 f__law_refused := ok__law_refused T F__law_refused (D_Field___init__.mono (by decide))
  have D__law_members : Df P w K mg base 1 (He.ga K "_law_members") 1 f__law_members := ok__law_members T F__law_members 
  have D__law_rest : Df P w K mg base 1 (He.ga K "_law_rest") 1 f__law_rest := ok__law_rest T F__law_rest 
  have D__law_member : Df P w K mg base 1 (He.ga K "_law_member") 3 f__law_member := ok__law_member T F__law_member 
  have D__law_is_member : Df P w K mg base 1 (He.ga K "_law_is_member") 2 f__law_is_member := ok__law_is_member T F__law_is_member 
  have D__law_same : Df P w K mg base 2 (He.ga K "_law_same") 3 f__law_same := ok__law_same T F__law_same (D__law_is_member.mono (by decide))
  have D_Field_turned : Df P w K mg base 1 (He.ma K (He.ga K "Field") "turned") 2 f_Field_turned := ok_Field_turned T F_Field_turned 
  have D__law_times : Df P w K mg base 2 (He.ga K "_law_times") 3 f__law_times := ok__law_times T F__law_times (D__law_rest.mono (by decide))
  have D__law_repeated : Df P w K mg base 3 (He.ga K "_law_repeated") 3 f__law_repeated := ok__law_repeated T F__law_repeated (D__law_times.mono (by decide))
  have D_Field_number : Df P w K mg base 1 (He.ma K (He.ga K "Field") "number") 2 f_Field_number := ok_Field_number T F_Field_number 
  have D_Field_plus : Df P w K mg base 1 (He.ma K (He.ga K "Field") "plus") 3 f_Field_plus := ok_Field_plus T F_Field_plus 
  have D__law_plus : Df P w K mg base 1 (He.ga K "_law_plus") 3 f__law_plus := ok__law_plus T F__law_plus 
  have D_Field_minus : Df P w K mg base 1 (He.ma K (He.ga K "Field") "minus") 3 f_Field_minus := ok_Field_minus T F_Field_minus 
  have D__law_minus : Df P w K mg base 1 (He.ga K "_law_minus") 3 f__law_minus := ok__law_minus T F__law_minus 
  have D_Field_times : Df P w K mg base 1 (He.ma K (He.ga K "Field") "times") 3 f_Field_times := ok_Field_times T F_Field_times 
  have D_Field_power : Df P w K mg base 2 (He.ma K (He.ga K "Field") "power") 3 f_Field_power := ok_Field_power T F_Field_power (D_Field_times.mono (by decide))
  exact fn_e (ok_law T F_law (D__law_draws.mono (by decide)) (D__law_prime.mono (by decide)) (D_Field___init__.mono (by decide)) (D_Field_members.mono (by decide)) (D__law_no_inverse.mono (by decide)) (D__law_refused.mono (by decide)) (D__law_members.mono (by decide)) (D__law_rest.mono (by decide)) (D__law_member.mono (by decide)) (D__law_same.mono (by decide)) (D_Field_turned.mono (by decide)) (D__law_repeated.mono (by decide)) (D__law_is_member.mono (by decide)) (D_Field_number.mono (by decide)) (D_Field_plus.mono (by decide)) (D__law_plus.mono (by decide)) (D_Field_minus.mono (by decide)) (D__law_minus.mono (by decide)) (D_Field_times.mono (by decide)) (D__law_times.mono (by decide)) (D_Field_power.mono (by decide)) (D_Field_inverse.mono (by decide)))
theorem final (pure_law : ∀ ns : List Int, ns.length ≤ 63 → ∃ as', f_law [.sh (.scr ns)] = some (.rt (.sh (.bl true)), as')) : PySem.Challenge.rw_hecate_k66_the_field.Holds := by
  open PySem.W PySem.Calls PyProof.Rows in
  w_on; o_law
  refine HandSHeadRun.head_any (r := OpenLaw.row PySem.Challenge.rw_hecate_k66_the_field) (q := view (OpenLaw.row PySem.Challenge.rw_hecate_k66_the_field).prog [27]) (H := hk) (ob := ob) (M := 6000) (loose := loose) (d := HandSHeadRun.topDef (OpenLaw.row PySem.Challenge.rw_hecate_k66_the_field).prog 27) (kwd := []) ob_eq
    (by kernel_rfl) (fun s => by kernel_rfl) run (by kernel_rfl) (by kernel_rfl) (by kernel_rfl) (by rfl) (by first | assumption | decide +kernel) (by decide +kernel) ⟨rfl, rfl, rfl, rfl, rfl, by decide +kernel⟩ ?hw ?hc
  case hw => w_witness2
  case hc =>
    refine L2.walk_ofE (l := PySem.Challenge.rw_hecate_k66_the_field) (n := 63) (k := 5) (x := "script") (CX := CXe prog) rfl (by decide) (by kernel_rfl) ⟨rfl, by decide, by decide⟩ ?F cxe_no
    intro w mg fa h Y G hmg0
    obtain ⟨K, KX, c⟩ := Y
    have hmg : mg ("law" : PySem.Str) = some (.ref fa) := by
      have e : (HandSHeadRun.topDef (OpenLaw.row PySem.Challenge.rw_hecate_k66_the_field).prog 27).name = ("law" : PySem.Str) := by kernel_rfl
      rw [← e]
      exact hmg0
    have e := hmg.symm.trans (He.glo_ok KX G (c.2.2.fact 45 (f := .glo "law") rfl))
    cases e
    obtain ⟨fd, hb, hF⟩ := chain (P := prog) (w := w) KX G c
    exact ⟨K, fd, spD K 1 f_law, KX, hb, fun H a ns hl _ hS => law_of hS (pure_law ns hl), fun base _ _ => hF base⟩
end Lk66
set_option Elab.async false
set_option linter.all false
set_option maxRecDepth 100000
set_option maxHeartbeats 1000000
namespace Lk66
open PySem L2 Pd Fq
section
variable {p r : Nat} [NeZero p] [g : GoodO p r]
abbrev fld (p r : Nat) : D := .obj "Field" (fldF p r)
theorem e_plus (x y : El p r) : back (f_Field_plus [.sh (.obj "Field" (fldF p r)), .sh (prF x), .sh (prF y)]) = some (prF (x + y)) := by
  simp [f_Field_plus, m_Field_plus, Pd.fnS_ap, Pd.fin_ap, Pd.ret_ap, Pd.lft_ap, Pd.bnd_ap, Pd.rdv_ap, Pd.bin_ap, Pd.una_ap, Pd.lNil_ap, Pd.lCons_ap, Pd.mTup_ap, Pd.mLst_ap, Pd.asB_ap, Pd.asI_ap, Pd.asTru_ap, Pd.mAnd_ap, Pd.mOr_ap, Pd.mNot_ap, Pd.vAnd_ap, Pd.vOr_ap, Pd.vNot_ap, Pd.mIf_ap, Pd.chn_ap, Pd.sSeq_ap, Pd.sSkip_ap, Pd.sAsg_ap, Pd.setN_if, Pd.nfB_un, Pd.nfB_sh, Pd.nfB_ow, Pd.sAsgH_if, Pd.sRet_ap, Pd.sRetN_ap, Pd.sIf_ap, Pd.sRaise_ap, Pd.sDrop_ap, Pd.sBk_ap, Pd.sCt_ap, Pd.sAug_ap, Pd.sFldS_ap, Pd.hotI_ap, Pd.hotL_ap, Pd.ixh_ap, Pd.hotRead_ap, Pd.sApp_ap, Pd.lenh_ap, Pd.mCut_ap, Pd.mSeq_ap, Pd.mCall_ap, Pd.mCallN_ap, Pd.mMeth_ap, Pd.mMethN_ap, Pd.slf_ap, Pd.mMake_ap, Pd.back_sh, Pd.back_nw, Pd.backN_nw, Pd.backI_mk, Pd.add_ii, Pd.sub_ii, Pd.neg_i, Pd.int_i, Pd.int_b, Pd.lt_ii, Pd.le_ii, Pd.gt_ii, Pd.ge_ii, Pd.isN_non, Pd.isN_int, Pd.isN_tup, Pd.isN_lst, Pd.isN_obj, Pd.notN_non, Pd.notN_tup, Pd.notN_int, Pd.len_lst, Pd.len_tup, Pd.len_scr, Pd.tru_non, Pd.tru_bl, Pd.tru_int, Pd.tru_lst, Pd.tru_tup, Pd.eq_int, Pd.ne_int, List.replicate, List.length_cons, List.length_nil, List.append_nil, List.cons_append, List.nil_append, List.getElem?_cons_zero, List.getElem?_cons_succ, List.set_cons_zero, List.set_cons_succ, List.map_cons, List.map_nil, ix0, ix1, fld_p, mod_p]
  exact pr_of (by simp only [toF_add, toF_self, add_a]) (by simp only [toF_add, toF_self, add_b])
theorem e_minus (x y : El p r) : back (f_Field_minus [.sh (.obj "Field" (fldF p r)), .sh (prF x), .sh (prF y)]) = some (prF (x - y)) := by
  simp [f_Field_minus, m_Field_minus, Pd.fnS_ap, Pd.fin_ap, Pd.ret_ap, Pd.lft_ap, Pd.bnd_ap, Pd.rdv_ap, Pd.bin_ap, Pd.una_ap, Pd.lNil_ap, Pd.lCons_ap, Pd.mTup_ap, Pd.mLst_ap, Pd.asB_ap, Pd.asI_ap, Pd.asTru_ap, Pd.mAnd_ap, Pd.mOr_ap, Pd.mNot_ap, Pd.vAnd_ap, Pd.vOr_ap, Pd.vNot_ap, Pd.mIf_ap, Pd.chn_ap, Pd.sSeq_ap, Pd.sSkip_ap, Pd.sAsg_ap, Pd.setN_if, Pd.nfB_un, Pd.nfB_sh, Pd.nfB_ow, Pd.sAsgH_if, Pd.sRet_ap, Pd.sRetN_ap, Pd.sIf_ap, Pd.sRaise_ap, Pd.sDrop_ap, Pd.sBk_ap, Pd.sCt_ap, Pd.sAug_ap, Pd.sFldS_ap, Pd.hotI_ap, Pd.hotL_ap, Pd.ixh_ap, Pd.hotRead_ap, Pd.sApp_ap, Pd.lenh_ap, Pd.mCut_ap, Pd.mSeq_ap, Pd.mCall_ap, Pd.mCallN_ap, Pd.mMeth_ap, Pd.mMethN_ap, Pd.slf_ap, Pd.mMake_ap, Pd.back_sh, Pd.back_nw, Pd.backN_nw, Pd.backI_mk, Pd.add_ii, Pd.sub_ii, Pd.neg_i, Pd.int_i, Pd.int_b, Pd.lt_ii, Pd.le_ii, Pd.gt_ii, Pd.ge_ii, Pd.isN_non, Pd.isN_int, Pd.isN_tup, Pd.isN_lst, Pd.isN_obj, Pd.notN_non, Pd.notN_tup, Pd.notN_int, Pd.len_lst, Pd.len_tup, Pd.len_scr, Pd.tru_non, Pd.tru_bl, Pd.tru_int, Pd.tru_lst, Pd.tru_tup, Pd.eq_int, Pd.ne_int, List.replicate, List.length_cons, List.length_nil, List.append_nil, List.cons_append, List.nil_append, List.getElem?_cons_zero, List.getElem?_cons_succ, List.set_cons_zero, List.set_cons_succ, List.map_cons, List.map_nil, ix0, ix1, fld_p, mod_p]
  exact pr_of (by simp only [toF_sub, toF_self, sub_a]) (by simp only [toF_sub, toF_self, sub_b])
theorem e_times (h97 : p ≤ 97) (x y : El p r) : back (f_Field_times [.sh (.obj "Field" (fldF p r)), .sh (prF x), .sh (prF y)]) = some (prF (x * y)) := by
  simp [f_Field_times, m_Field_times, Pd.fnS_ap, Pd.fin_ap, Pd.ret_ap, Pd.lft_ap, Pd.bnd_ap, Pd.rdv_ap, Pd.bin_ap, Pd.una_ap, Pd.lNil_ap, Pd.lCons_ap, Pd.mTup_ap, Pd.mLst_ap, Pd.asB_ap, Pd.asI_ap, Pd.asTru_ap, Pd.mAnd_ap, Pd.mOr_ap, Pd.mNot_ap, Pd.vAnd_ap, Pd.vOr_ap, Pd.vNot_ap, Pd.mIf_ap, Pd.chn_ap, Pd.sSeq_ap, Pd.sSkip_ap, Pd.sAsg_ap, Pd.setN_if, Pd.nfB_un, Pd.nfB_sh, Pd.nfB_ow, Pd.sAsgH_if, Pd.sRet_ap, Pd.sRetN_ap, Pd.sIf_ap, Pd.sRaise_ap, Pd.sDrop_ap, Pd.sBk_ap, Pd.sCt_ap, Pd.sAug_ap, Pd.sFldS_ap, Pd.hotI_ap, Pd.hotL_ap, Pd.ixh_ap, Pd.hotRead_ap, Pd.sApp_ap, Pd.lenh_ap, Pd.mCut_ap, Pd.mSeq_ap, Pd.mCall_ap, Pd.mCallN_ap, Pd.mMeth_ap, Pd.mMethN_ap, Pd.slf_ap, Pd.mMake_ap, Pd.back_sh, Pd.back_nw, Pd.backN_nw, Pd.backI_mk, Pd.add_ii, Pd.sub_ii, Pd.neg_i, Pd.int_i, Pd.int_b, Pd.lt_ii, Pd.le_ii, Pd.gt_ii, Pd.ge_ii, Pd.isN_non, Pd.isN_int, Pd.isN_tup, Pd.isN_lst, Pd.isN_obj, Pd.notN_non, Pd.notN_tup, Pd.notN_int, Pd.len_lst, Pd.len_tup, Pd.len_scr, Pd.tru_non, Pd.tru_bl, Pd.tru_int, Pd.tru_lst, Pd.tru_tup, Pd.eq_int, Pd.ne_int, List.replicate, List.length_cons, List.length_nil, List.append_nil, List.cons_append, List.nil_append, List.getElem?_cons_zero, List.getElem?_cons_succ, List.set_cons_zero, List.set_cons_succ, List.map_cons, List.map_nil, ix0, ix1, fld_p, fld_rest, mod_p, mul_v h97]
  exact pr_of (by simp only [toF_add, toF_mul, toF_self, mul_a]; rfl) (by simp only [toF_add, toF_mul, toF_self, mul_b])
theorem e_number (n : Nat) : back (f_Field_number [.sh (.obj "Field" (fldF p r)), .sh (.int (n : Int))]) = some (prF (n : El p r)) := by
  simp [f_Field_number, m_Field_number, Pd.fnS_ap, Pd.fin_ap, Pd.ret_ap, Pd.lft_ap, Pd.bnd_ap, Pd.rdv_ap, Pd.bin_ap, Pd.una_ap, Pd.lNil_ap, Pd.lCons_ap, Pd.mTup_ap, Pd.mLst_ap, Pd.asB_ap, Pd.asI_ap, Pd.asTru_ap, Pd.mAnd_ap, Pd.mOr_ap, Pd.mNot_ap, Pd.vAnd_ap, Pd.vOr_ap, Pd.vNot_ap, Pd.mIf_ap, Pd.chn_ap, Pd.sSeq_ap, Pd.sSkip_ap, Pd.sAsg_ap, Pd.setN_if, Pd.nfB_un, Pd.nfB_sh, Pd.nfB_ow, Pd.sAsgH_if, Pd.sRet_ap, Pd.sRetN_ap, Pd.sIf_ap, Pd.sRaise_ap, Pd.sDrop_ap, Pd.sBk_ap, Pd.sCt_ap, Pd.sAug_ap, Pd.sFldS_ap, Pd.hotI_ap, Pd.hotL_ap, Pd.ixh_ap, Pd.hotRead_ap, Pd.sApp_ap, Pd.lenh_ap, Pd.mCut_ap, Pd.mSeq_ap, Pd.mCall_ap, Pd.mCallN_ap, Pd.mMeth_ap, Pd.mMethN_ap, Pd.slf_ap, Pd.mMake_ap, Pd.back_sh, Pd.back_nw, Pd.backN_nw, Pd.backI_mk, Pd.add_ii, Pd.sub_ii, Pd.neg_i, Pd.int_i, Pd.int_b, Pd.lt_ii, Pd.le_ii, Pd.gt_ii, Pd.ge_ii, Pd.isN_non, Pd.isN_int, Pd.isN_tup, Pd.isN_lst, Pd.isN_obj, Pd.notN_non, Pd.notN_tup, Pd.notN_int, Pd.len_lst, Pd.len_tup, Pd.len_scr, Pd.tru_non, Pd.tru_bl, Pd.tru_int, Pd.tru_lst, Pd.tru_tup, Pd.eq_int, Pd.ne_int, List.replicate, List.length_cons, List.length_nil, List.append_nil, List.cons_append, List.nil_append, List.getElem?_cons_zero, List.getElem?_cons_succ, List.set_cons_zero, List.set_cons_succ, List.map_cons, List.map_nil, ix0, ix1, fld_p, fld_rest, mod_p]
  have e0 : (0 : Int) = 0 % (p : Int) := by simp
  rw [e0]
  exact pr_of (by rfl) (by rw [toF_zero]; rfl)
theorem e_inverse (h97 : p ≤ 97) {x : El p r} (h : x ≠ 0) : back (f_Field_inverse [.sh (.obj "Field" (fldF p r)), .sh (prF x)]) = some (prF x⁻¹) := by
  have e0 := eq_pr x (0 : El p r)
  rw [prF_zero] at e0
  have en : toF (p := p) ((x.a.val : Int) * (x.a.val : Int) - (r : Int) * (x.b.val : Int) * (x.b.val : Int)) = nrm x := by
    simp only [toF_sub, toF_mul, toF_self]; rfl
  simp [f_Field_inverse, m_Field_inverse, Pd.fnS_ap, Pd.fin_ap, Pd.ret_ap, Pd.lft_ap, Pd.bnd_ap, Pd.rdv_ap, Pd.bin_ap, Pd.una_ap, Pd.lNil_ap, Pd.lCons_ap, Pd.mTup_ap, Pd.mLst_ap, Pd.asB_ap, Pd.asI_ap, Pd.asTru_ap, Pd.mAnd_ap, Pd.mOr_ap, Pd.mNot_ap, Pd.vAnd_ap, Pd.vOr_ap, Pd.vNot_ap, Pd.mIf_ap, Pd.chn_ap, Pd.sSeq_ap, Pd.sSkip_ap, Pd.sAsg_ap, Pd.setN_if, Pd.nfB_un, Pd.nfB_sh, Pd.nfB_ow, Pd.sAsgH_if, Pd.sRet_ap, Pd.sRetN_ap, Pd.sIf_ap, Pd.sRaise_ap, Pd.sDrop_ap, Pd.sBk_ap, Pd.sCt_ap, Pd.sAug_ap, Pd.sFldS_ap, Pd.hotI_ap, Pd.hotL_ap, Pd.ixh_ap, Pd.hotRead_ap, Pd.sApp_ap, Pd.lenh_ap, Pd.mCut_ap, Pd.mSeq_ap, Pd.mCall_ap, Pd.mCallN_ap, Pd.mMeth_ap, Pd.mMethN_ap, Pd.slf_ap, Pd.mMake_ap, Pd.back_sh, Pd.back_nw, Pd.backN_nw, Pd.backI_mk, Pd.add_ii, Pd.sub_ii, Pd.neg_i, Pd.int_i, Pd.int_b, Pd.lt_ii, Pd.le_ii, Pd.gt_ii, Pd.ge_ii, Pd.isN_non, Pd.isN_int, Pd.isN_tup, Pd.isN_lst, Pd.isN_obj, Pd.notN_non, Pd.notN_tup, Pd.notN_int, Pd.len_lst, Pd.len_tup, Pd.len_scr, Pd.tru_non, Pd.tru_bl, Pd.tru_int, Pd.tru_lst, Pd.tru_tup, Pd.eq_int, Pd.ne_int, List.replicate, List.length_cons, List.length_nil, List.append_nil, List.cons_append, List.nil_append, List.getElem?_cons_zero, List.getElem?_cons_succ, List.set_cons_zero, List.set_cons_succ, List.map_cons, List.map_nil, ix0, ix1, fld_p, fld_rest, fld_inv, mod_p, e0, h, mul_v h97, val_of en, inv_ix (r := r)]
  exact pr_of (by simp only [toF_mul, toF_self, inv_a]) (by simp only [toF_mul, toF_sub, toF_zero, toF_neg, toF_self, inv_b]; grind)
end
end Lk66
set_option Elab.async false
set_option linter.all false
set_option maxRecDepth 100000
set_option maxHeartbeats 4000000
namespace Lk66
open PySem L2 Pd Fq
/-! ### the draws -/
theorem cut63 (ns : List Int) : cutD ns none (some 63) = ns.take 63 := by
  unfold cutD HT.sIx
  simp
def drE (ns : List Int) (m : Nat) (L : List Int) (seed : Int) (s4 s5 s6 : Sl) : En := [.sh (.scr ns), .sh (.int (m : Int)), .ow false (.lst (L.map .int)), .sh (.int seed), s4, s5, s6]
def drR (ns : List Int) (m : Nat) (B : Nat → Nat) (i : Nat) (e : En) : Prop := ∃ (L : List Int) (seed : Int) (s4 s5 s6 : Sl), e = drE ns m L seed s4 s5 s6 ∧ 0 ≤ seed ∧ seed < 2147483647 ∧ L.length ≤ B i ∧ (∀ x ∈ L, 0 ≤ x) ∧ nfB s4 = true ∧ nfB s5 = true ∧ nfB s6 = true
def drR1 (ns : List Int) (m : Nat) (b : Nat) (seed : Int) (s4 : Sl) (i : Nat) (e : En) : Prop := ∃ (L : List Int) (n : Int) (s6 : Sl), e = drE ns m L seed s4 (.sh (.int n)) s6 ∧ L.length ≤ b + i ∧ (∀ x ∈ L, 0 ≤ x) ∧ 0 ≤ n ∧ nfB s6 = true
theorem dr_b1 {ns : List Int} {m b i : Nat} {seed : Int} {s4 : Sl} {d : D} {e : En} (hb : b + i < 1000000) (h : drR1 ns m b seed s4 i e) : ∃ e1 e2, setN 6 d e = some e1 ∧ (b2__law_draws e1 = some (.nx e2) ∨ b2__law_draws e1 = some (.ct e2)) ∧ drR1 ns m b seed s4 (i + 1) e2 := by
  obtain ⟨L, n, s6, rfl, h1, h2, h3, h4⟩ := h
  refine ⟨drE ns m L seed s4 (.sh (.int n)) (.sh d), ?_⟩
  by_cases hn : 0 < n
  · refine ⟨drE ns m (L ++ [n % 1009]) seed s4 (.sh (.int (n / 1009))) (.sh d), ?_, .inl ?_, L ++ [n % 1009], n / 1009, .sh d, rfl, ?_, ?_, ?_, rfl⟩
    · simp [drE, Pd.fnS_ap, Pd.fin_ap, Pd.ret_ap, Pd.lft_ap, Pd.bnd_ap, Pd.rdv_ap, Pd.bin_ap, Pd.una_ap, Pd.lNil_ap, Pd.lCons_ap, Pd.mTup_ap, Pd.mLst_ap, Pd.asB_ap, Pd.asI_ap, Pd.asTru_ap, Pd.mAnd_ap, Pd.mOr_ap, Pd.mNot_ap, Pd.vAnd_ap, Pd.vOr_ap, Pd.vNot_ap, Pd.mIf_ap, Pd.chn_ap, Pd.sSeq_ap, Pd.sSkip_ap, Pd.sAsg_ap, Pd.setN_if, Pd.nfB_un, Pd.nfB_sh, Pd.nfB_ow, Pd.sAsgH_if, Pd.sRet_ap, Pd.sRetN_ap, Pd.sIf_ap, Pd.sRaise_ap, Pd.sDrop_ap, Pd.sBk_ap, Pd.sCt_ap, Pd.sAug_ap, Pd.sFldS_ap, Pd.hotI_ap, Pd.hotL_ap, Pd.ixh_ap, Pd.hotRead_ap, Pd.sApp_ap, Pd.lenh_ap, Pd.mCut_ap, Pd.mSeq_ap, Pd.mCall_ap, Pd.mCallN_ap, Pd.mMeth_ap, Pd.mMethN_ap, Pd.slf_ap, Pd.mMake_ap, Pd.back_sh, Pd.back_nw, Pd.backN_nw, Pd.backI_mk, Pd.add_ii, Pd.sub_ii, Pd.neg_i, Pd.int_i, Pd.int_b, Pd.lt_ii, Pd.le_ii, Pd.gt_ii, Pd.ge_ii, Pd.isN_non, Pd.isN_int, Pd.isN_tup, Pd.isN_lst, Pd.isN_obj, Pd.notN_non, Pd.notN_tup, Pd.notN_int, Pd.len_lst, Pd.len_tup, Pd.len_scr, Pd.tru_non, Pd.tru_bl, Pd.tru_int, Pd.tru_lst, Pd.tru_tup, Pd.eq_int, Pd.ne_int, List.replicate, List.length_cons, List.length_nil, List.append_nil, List.cons_append, List.nil_append, List.getElem?_cons_zero, List.getElem?_cons_succ, List.set_cons_zero, List.set_cons_succ, List.map_cons, List.map_nil, h4]
    · have hl : L.length < 1000000 := by omega
      simp [b2__law_draws, drE, Pd.fnS_ap, Pd.fin_ap, Pd.ret_ap, Pd.lft_ap, Pd.bnd_ap, Pd.rdv_ap, Pd.bin_ap, Pd.una_ap, Pd.lNil_ap, Pd.lCons_ap, Pd.mTup_ap, Pd.mLst_ap, Pd.asB_ap, Pd.asI_ap, Pd.asTru_ap, Pd.mAnd_ap, Pd.mOr_ap, Pd.mNot_ap, Pd.vAnd_ap, Pd.vOr_ap, Pd.vNot_ap, Pd.mIf_ap, Pd.chn_ap, Pd.sSeq_ap, Pd.sSkip_ap, Pd.sAsg_ap, Pd.setN_if, Pd.nfB_un, Pd.nfB_sh, Pd.nfB_ow, Pd.sAsgH_if, Pd.sRet_ap, Pd.sRetN_ap, Pd.sIf_ap, Pd.sRaise_ap, Pd.sDrop_ap, Pd.sBk_ap, Pd.sCt_ap, Pd.sAug_ap, Pd.sFldS_ap, Pd.hotI_ap, Pd.hotL_ap, Pd.ixh_ap, Pd.hotRead_ap, Pd.sApp_ap, Pd.lenh_ap, Pd.mCut_ap, Pd.mSeq_ap, Pd.mCall_ap, Pd.mCallN_ap, Pd.mMeth_ap, Pd.mMethN_ap, Pd.slf_ap, Pd.mMake_ap, Pd.back_sh, Pd.back_nw, Pd.backN_nw, Pd.backI_mk, Pd.add_ii, Pd.sub_ii, Pd.neg_i, Pd.int_i, Pd.int_b, Pd.lt_ii, Pd.le_ii, Pd.gt_ii, Pd.ge_ii, Pd.isN_non, Pd.isN_int, Pd.isN_tup, Pd.isN_lst, Pd.isN_obj, Pd.notN_non, Pd.notN_tup, Pd.notN_int, Pd.len_lst, Pd.len_tup, Pd.len_scr, Pd.tru_non, Pd.tru_bl, Pd.tru_int, Pd.tru_lst, Pd.tru_tup, Pd.eq_int, Pd.ne_int, List.replicate, List.length_cons, List.length_nil, List.append_nil, List.cons_append, List.nil_append, List.getElem?_cons_zero, List.getElem?_cons_succ, List.set_cons_zero, List.set_cons_succ, List.map_cons, List.map_nil, hn, dmod_ok, fdiv_ok, hl]
    · rw [List.length_append, List.length_singleton]; omega
    · intro x hx
      rcases List.mem_append.mp hx with hx | hx
      · exact h2 x hx
      · rw [List.mem_singleton.mp hx]; omega
    · omega
  · refine ⟨drE ns m L seed s4 (.sh (.int n)) (.sh d), ?_, .inl ?_, L, n, .sh d, rfl, by omega, h2, h3, rfl⟩
    · simp [drE, Pd.fnS_ap, Pd.fin_ap, Pd.ret_ap, Pd.lft_ap, Pd.bnd_ap, Pd.rdv_ap, Pd.bin_ap, Pd.una_ap, Pd.lNil_ap, Pd.lCons_ap, Pd.mTup_ap, Pd.mLst_ap, Pd.asB_ap, Pd.asI_ap, Pd.asTru_ap, Pd.mAnd_ap, Pd.mOr_ap, Pd.mNot_ap, Pd.vAnd_ap, Pd.vOr_ap, Pd.vNot_ap, Pd.mIf_ap, Pd.chn_ap, Pd.sSeq_ap, Pd.sSkip_ap, Pd.sAsg_ap, Pd.setN_if, Pd.nfB_un, Pd.nfB_sh, Pd.nfB_ow, Pd.sAsgH_if, Pd.sRet_ap, Pd.sRetN_ap, Pd.sIf_ap, Pd.sRaise_ap, Pd.sDrop_ap, Pd.sBk_ap, Pd.sCt_ap, Pd.sAug_ap, Pd.sFldS_ap, Pd.hotI_ap, Pd.hotL_ap, Pd.ixh_ap, Pd.hotRead_ap, Pd.sApp_ap, Pd.lenh_ap, Pd.mCut_ap, Pd.mSeq_ap, Pd.mCall_ap, Pd.mCallN_ap, Pd.mMeth_ap, Pd.mMethN_ap, Pd.slf_ap, Pd.mMake_ap, Pd.back_sh, Pd.back_nw, Pd.backN_nw, Pd.backI_mk, Pd.add_ii, Pd.sub_ii, Pd.neg_i, Pd.int_i, Pd.int_b, Pd.lt_ii, Pd.le_ii, Pd.gt_ii, Pd.ge_ii, Pd.isN_non, Pd.isN_int, Pd.isN_tup, Pd.isN_lst, Pd.isN_obj, Pd.notN_non, Pd.notN_tup, Pd.notN_int, Pd.len_lst, Pd.len_tup, Pd.len_scr, Pd.tru_non, Pd.tru_bl, Pd.tru_int, Pd.tru_lst, Pd.tru_tup, Pd.eq_int, Pd.ne_int, List.replicate, List.length_cons, List.length_nil, List.append_nil, List.cons_append, List.nil_append, List.getElem?_cons_zero, List.getElem?_cons_succ, List.set_cons_zero, List.set_cons_succ, List.map_cons, List.map_nil, h4]
    · simp [b2__law_draws, drE, Pd.fnS_ap, Pd.fin_ap, Pd.ret_ap, Pd.lft_ap, Pd.bnd_ap, Pd.rdv_ap, Pd.bin_ap, Pd.una_ap, Pd.lNil_ap, Pd.lCons_ap, Pd.mTup_ap, Pd.mLst_ap, Pd.asB_ap, Pd.asI_ap, Pd.asTru_ap, Pd.mAnd_ap, Pd.mOr_ap, Pd.mNot_ap, Pd.vAnd_ap, Pd.vOr_ap, Pd.vNot_ap, Pd.mIf_ap, Pd.chn_ap, Pd.sSeq_ap, Pd.sSkip_ap, Pd.sAsg_ap, Pd.setN_if, Pd.nfB_un, Pd.nfB_sh, Pd.nfB_ow, Pd.sAsgH_if, Pd.sRet_ap, Pd.sRetN_ap, Pd.sIf_ap, Pd.sRaise_ap, Pd.sDrop_ap, Pd.sBk_ap, Pd.sCt_ap, Pd.sAug_ap, Pd.sFldS_ap, Pd.hotI_ap, Pd.hotL_ap, Pd.ixh_ap, Pd.hotRead_ap, Pd.sApp_ap, Pd.lenh_ap, Pd.mCut_ap, Pd.mSeq_ap, Pd.mCall_ap, Pd.mCallN_ap, Pd.mMeth_ap, Pd.mMethN_ap, Pd.slf_ap, Pd.mMake_ap, Pd.back_sh, Pd.back_nw, Pd.backN_nw, Pd.backI_mk, Pd.add_ii, Pd.sub_ii, Pd.neg_i, Pd.int_i, Pd.int_b, Pd.lt_ii, Pd.le_ii, Pd.gt_ii, Pd.ge_ii, Pd.isN_non, Pd.isN_int, Pd.isN_tup, Pd.isN_lst, Pd.isN_obj, Pd.notN_non, Pd.notN_tup, Pd.notN_int, Pd.len_lst, Pd.len_tup, Pd.len_scr, Pd.tru_non, Pd.tru_bl, Pd.tru_int, Pd.tru_lst, Pd.tru_tup, Pd.eq_int, Pd.ne_int, List.replicate, List.length_cons, List.length_nil, List.append_nil, List.cons_append, List.nil_append, List.getElem?_cons_zero, List.getElem?_cons_succ, List.set_cons_zero, List.set_cons_succ, List.map_cons, List.map_nil, hn]
theorem dr_b2 {ns : List Int} {m i : Nat} {c : Int} {e : En} (hi : i < 64) (h : drR ns m (60 * ·) i e) : ∃ e1 e2, setN 4 (.int c) e = some e1 ∧ (b3__law_draws e1 = some (.nx e2) ∨ b3__law_draws e1 = some (.ct e2)) ∧ drR ns m (60 * ·) (i + 1) e2 := by
  obtain ⟨L, seed, s4, s5, s6, rfl, h1, h2, h3, h4, h5, h6, h7⟩ := h
  refine ⟨drE ns m L seed (.sh (.int c)) s5 s6, ?_⟩
  obtain ⟨a, ha0⟩ : ∃ a, a = (if c < 0 then -c else c) := ⟨_, rfl⟩
  have ha : 0 ≤ a := by rw [ha0]; split <;> omega
  have ab : dAbs (.int c) = some (.int a) := by rw [ha0]; rfl
  obtain ⟨sd, hsd⟩ : ∃ sd, sd = (seed * 48271 + a + 11) % 2147483647 := ⟨_, rfl⟩
  have hs1 : 0 ≤ sd := by rw [hsd]; exact Int.emod_nonneg _ (by decide)
  have hs2 : sd < 2147483647 := by rw [hsd]; exact Int.emod_lt_of_pos _ (by decide)
  have md : dMod (.int (seed * 48271 + a + 11)) (.int 2147483647) = some (.int sd) := by rw [hsd]; exact dmod_ok (by decide)
  have m1 : dMul (.int seed) (.int 48271) = some (.int (seed * 48271)) := mulOk_r (by decide)
  have m2 : dMul (.int sd) (.int 16807) = some (.int (sd * 16807)) := mulOk_r (by decide)
  have md2 (x : Int) : dMod (.int x) (.int 65521) = some (.int (x % 65521)) := dmod_ok (by decide)
  have pw : dPow (.int 10) (.int 18) = some (.int 1000000000000000000) := by rfl
  have st : setN 4 (.int c) (drE ns m L seed s4 s5 s6) = some (drE ns m L seed (.sh (.int c)) s5 s6) := by simp [drE, Pd.fnS_ap, Pd.fin_ap, Pd.ret_ap, Pd.lft_ap, Pd.bnd_ap, Pd.rdv_ap, Pd.bin_ap, Pd.una_ap, Pd.lNil_ap, Pd.lCons_ap, Pd.mTup_ap, Pd.mLst_ap, Pd.asB_ap, Pd.asI_ap, Pd.asTru_ap, Pd.mAnd_ap, Pd.mOr_ap, Pd.mNot_ap, Pd.vAnd_ap, Pd.vOr_ap, Pd.vNot_ap, Pd.mIf_ap, Pd.chn_ap, Pd.sSeq_ap, Pd.sSkip_ap, Pd.sAsg_ap, Pd.setN_if, Pd.nfB_un, Pd.nfB_sh, Pd.nfB_ow, Pd.sAsgH_if, Pd.sRet_ap, Pd.sRetN_ap, Pd.sIf_ap, Pd.sRaise_ap, Pd.sDrop_ap, Pd.sBk_ap, Pd.sCt_ap, Pd.sAug_ap, Pd.sFldS_ap, Pd.hotI_ap, Pd.hotL_ap, Pd.ixh_ap, Pd.hotRead_ap, Pd.sApp_ap, Pd.lenh_ap, Pd.mCut_ap, Pd.mSeq_ap, Pd.mCall_ap, Pd.mCallN_ap, Pd.mMeth_ap, Pd.mMethN_ap, Pd.slf_ap, Pd.mMake_ap, Pd.back_sh, Pd.back_nw, Pd.backN_nw, Pd.backI_mk, Pd.add_ii, Pd.sub_ii, Pd.neg_i, Pd.int_i, Pd.int_b, Pd.lt_ii, Pd.le_ii, Pd.gt_ii, Pd.ge_ii, Pd.isN_non, Pd.isN_int, Pd.isN_tup, Pd.isN_lst, Pd.isN_obj, Pd.notN_non, Pd.notN_tup, Pd.notN_int, Pd.len_lst, Pd.len_tup, Pd.len_scr, Pd.tru_non, Pd.tru_bl, Pd.tru_int, Pd.tru_lst, Pd.tru_tup, Pd.eq_int, Pd.ne_int, List.replicate, List.length_cons, List.length_nil, List.append_nil, List.cons_append, List.nil_append, List.getElem?_cons_zero, List.getElem?_cons_succ, List.set_cons_zero, List.set_cons_succ, List.map_cons, List.map_nil, h5]
  simp only at h3
  by_cases hb : 1000000000000000000 ≤ a
  · obtain ⟨e', z1, z2⟩ := for_ind (set := setN 6) (m := b2__law_draws) (drR1 ns m (60 * i) sd (.sh (.int c))) (rngD 0 60) (drE ns m L sd (.sh (.int c)) (.sh (.int a)) s6) 0 ⟨L, a, s6, rfl, h3, h4, ha, h7⟩ (fun j d e hd hr => dr_b1 (by have := (rngD_get hd).1; omega) hr)
    obtain ⟨L2, n2, s62, rfl, w1, w2, w3, w4⟩ := z2
    rw [rngD_len] at w1
    refine ⟨drE ns m L2 sd (.sh (.int c)) (.sh (.int n2)) s62, st, .inl ?_, L2, sd, .sh (.int c), .sh (.int n2), s62, rfl, hs1, hs2, by simp only; omega, w2, rfl, rfl, w4⟩
    have fr (e : En) : sFor (mRng1 (Pd.ret (.int 60))) (setN 6) b2__law_draws e = sForL (setN 6) b2__law_draws (rngD 0 60) e := rfl
    simp only [drE] at z1
    simp [b3__law_draws, drE, Pd.fnS_ap, Pd.fin_ap, Pd.ret_ap, Pd.lft_ap, Pd.bnd_ap, Pd.rdv_ap, Pd.bin_ap, Pd.una_ap, Pd.lNil_ap, Pd.lCons_ap, Pd.mTup_ap, Pd.mLst_ap, Pd.asB_ap, Pd.asI_ap, Pd.asTru_ap, Pd.mAnd_ap, Pd.mOr_ap, Pd.mNot_ap, Pd.vAnd_ap, Pd.vOr_ap, Pd.vNot_ap, Pd.mIf_ap, Pd.chn_ap, Pd.sSeq_ap, Pd.sSkip_ap, Pd.sAsg_ap, Pd.setN_if, Pd.nfB_un, Pd.nfB_sh, Pd.nfB_ow, Pd.sAsgH_if, Pd.sRet_ap, Pd.sRetN_ap, Pd.sIf_ap, Pd.sRaise_ap, Pd.sDrop_ap, Pd.sBk_ap, Pd.sCt_ap, Pd.sAug_ap, Pd.sFldS_ap, Pd.hotI_ap, Pd.hotL_ap, Pd.ixh_ap, Pd.hotRead_ap, Pd.sApp_ap, Pd.lenh_ap, Pd.mCut_ap, Pd.mSeq_ap, Pd.mCall_ap, Pd.mCallN_ap, Pd.mMeth_ap, Pd.mMethN_ap, Pd.slf_ap, Pd.mMake_ap, Pd.back_sh, Pd.back_nw, Pd.backN_nw, Pd.backI_mk, Pd.add_ii, Pd.sub_ii, Pd.neg_i, Pd.int_i, Pd.int_b, Pd.lt_ii, Pd.le_ii, Pd.gt_ii, Pd.ge_ii, Pd.isN_non, Pd.isN_int, Pd.isN_tup, Pd.isN_lst, Pd.isN_obj, Pd.notN_non, Pd.notN_tup, Pd.notN_int, Pd.len_lst, Pd.len_tup, Pd.len_scr, Pd.tru_non, Pd.tru_bl, Pd.tru_int, Pd.tru_lst, Pd.tru_tup, Pd.eq_int, Pd.ne_int, List.replicate, List.length_cons, List.length_nil, List.append_nil, List.cons_append, List.nil_append, List.getElem?_cons_zero, List.getElem?_cons_succ, List.set_cons_zero, List.set_cons_succ, List.map_cons, List.map_nil, h6, m1, ab, md, pw, hb, fr, z1]
  · refine ⟨drE ns m (L ++ [(sd * 16807 + 5) / 3 % 65521]) sd (.sh (.int c)) (.sh (.int a)) s6, st, .inl ?_, _, sd, .sh (.int c), .sh (.int a), s6, rfl, hs1, hs2, ?_, ?_, rfl, rfl, h7⟩
    · have hl : L.length < 1000000 := by omega
      simp [b3__law_draws, drE, Pd.fnS_ap, Pd.fin_ap, Pd.ret_ap, Pd.lft_ap, Pd.bnd_ap, Pd.rdv_ap, Pd.bin_ap, Pd.una_ap, Pd.lNil_ap, Pd.lCons_ap, Pd.mTup_ap, Pd.mLst_ap, Pd.asB_ap, Pd.asI_ap, Pd.asTru_ap, Pd.mAnd_ap, Pd.mOr_ap, Pd.mNot_ap, Pd.vAnd_ap, Pd.vOr_ap, Pd.vNot_ap, Pd.mIf_ap, Pd.chn_ap, Pd.sSeq_ap, Pd.sSkip_ap, Pd.sAsg_ap, Pd.setN_if, Pd.nfB_un, Pd.nfB_sh, Pd.nfB_ow, Pd.sAsgH_if, Pd.sRet_ap, Pd.sRetN_ap, Pd.sIf_ap, Pd.sRaise_ap, Pd.sDrop_ap, Pd.sBk_ap, Pd.sCt_ap, Pd.sAug_ap, Pd.sFldS_ap, Pd.hotI_ap, Pd.hotL_ap, Pd.ixh_ap, Pd.hotRead_ap, Pd.sApp_ap, Pd.lenh_ap, Pd.mCut_ap, Pd.mSeq_ap, Pd.mCall_ap, Pd.mCallN_ap, Pd.mMeth_ap, Pd.mMethN_ap, Pd.slf_ap, Pd.mMake_ap, Pd.back_sh, Pd.back_nw, Pd.backN_nw, Pd.backI_mk, Pd.add_ii, Pd.sub_ii, Pd.neg_i, Pd.int_i, Pd.int_b, Pd.lt_ii, Pd.le_ii, Pd.gt_ii, Pd.ge_ii, Pd.isN_non, Pd.isN_int, Pd.isN_tup, Pd.isN_lst, Pd.isN_obj, Pd.notN_non, Pd.notN_tup, Pd.notN_int, Pd.len_lst, Pd.len_tup, Pd.len_scr, Pd.tru_non, Pd.tru_bl, Pd.tru_int, Pd.tru_lst, Pd.tru_tup, Pd.eq_int, Pd.ne_int, List.replicate, List.length_cons, List.length_nil, List.append_nil, List.cons_append, List.nil_append, List.getElem?_cons_zero, List.getElem?_cons_succ, List.set_cons_zero, List.set_cons_succ, List.map_cons, List.map_nil, h6, m1, ab, md, pw, hb, m2, fdiv_ok, md2, hl]
    · rw [List.length_append, List.length_singleton]; simp only; omega
    · intro x hx
      rcases List.mem_append.mp hx with hx | hx
      · exact h4 x hx
      · rw [List.mem_singleton.mp hx]; omega
/-- the second loop: as many as are lacking -/
def drR3 (ns : List Int) (m : Nat) (i : Nat) (e : En) : Prop := ∃ (L : List Int) (seed : Int) (s4 s5 s6 : Sl), e = drE ns m L seed s4 s5 s6 ∧ 0 ≤ seed ∧ seed < 2147483647 ∧ (i ≤ L.length ∨ m ≤ L.length) ∧ L.length ≤ 4000 + i ∧ (∀ x ∈ L, 0 ≤ x) ∧ nfB s6 = true
theorem dr_b3 {ns : List Int} {m i : Nat} {c : Int} {e : En} (hm : m ≤ 1000) (hi : i < 1000) (h : drR3 ns m i e) : ∃ e1 e2, setN 6 (.int c) e = some e1 ∧ (b1__law_draws e1 = some (.nx e2) ∨ b1__law_draws e1 = some (.ct e2)) ∧ drR3 ns m (i + 1) e2 := by
  obtain ⟨L, seed, s4, s5, s6, rfl, h1, h2, h3, h4, h5, h7⟩ := h
  refine ⟨drE ns m L seed s4 s5 (.sh (.int c)), ?_⟩
  have st : setN 6 (.int c) (drE ns m L seed s4 s5 s6) = some (drE ns m L seed s4 s5 (.sh (.int c))) := by simp [drE, Pd.fnS_ap, Pd.fin_ap, Pd.ret_ap, Pd.lft_ap, Pd.bnd_ap, Pd.rdv_ap, Pd.bin_ap, Pd.una_ap, Pd.lNil_ap, Pd.lCons_ap, Pd.mTup_ap, Pd.mLst_ap, Pd.asB_ap, Pd.asI_ap, Pd.asTru_ap, Pd.mAnd_ap, Pd.mOr_ap, Pd.mNot_ap, Pd.vAnd_ap, Pd.vOr_ap, Pd.vNot_ap, Pd.mIf_ap, Pd.chn_ap, Pd.sSeq_ap, Pd.sSkip_ap, Pd.sAsg_ap, Pd.setN_if, Pd.nfB_un, Pd.nfB_sh, Pd.nfB_ow, Pd.sAsgH_if, Pd.sRet_ap, Pd.sRetN_ap, Pd.sIf_ap, Pd.sRaise_ap, Pd.sDrop_ap, Pd.sBk_ap, Pd.sCt_ap, Pd.sAug_ap, Pd.sFldS_ap, Pd.hotI_ap, Pd.hotL_ap, Pd.ixh_ap, Pd.hotRead_ap, Pd.sApp_ap, Pd.lenh_ap, Pd.mCut_ap, Pd.mSeq_ap, Pd.mCall_ap, Pd.mCallN_ap, Pd.mMeth_ap, Pd.mMethN_ap, Pd.slf_ap, Pd.mMake_ap, Pd.back_sh, Pd.back_nw, Pd.backN_nw, Pd.backI_mk, Pd.add_ii, Pd.sub_ii, Pd.neg_i, Pd.int_i, Pd.int_b, Pd.lt_ii, Pd.le_ii, Pd.gt_ii, Pd.ge_ii, Pd.isN_non, Pd.isN_int, Pd.isN_tup, Pd.isN_lst, Pd.isN_obj, Pd.notN_non, Pd.notN_tup, Pd.notN_int, Pd.len_lst, Pd.len_tup, Pd.len_scr, Pd.tru_non, Pd.tru_bl, Pd.tru_int, Pd.tru_lst, Pd.tru_tup, Pd.eq_int, Pd.ne_int, List.replicate, List.length_cons, List.length_nil, List.append_nil, List.cons_append, List.nil_append, List.getElem?_cons_zero, List.getElem?_cons_succ, List.set_cons_zero, List.set_cons_succ, List.map_cons, List.map_nil, h7]
  obtain ⟨sd, hsd⟩ : ∃ sd, sd = (seed * 69621 + c + 1) % 2147483647 := ⟨_, rfl⟩
  have hs1 : 0 ≤ sd := by rw [hsd]; exact Int.emod_nonneg _ (by decide)
  have hs2 : sd < 2147483647 := by rw [hsd]; exact Int.emod_lt_of_pos _ (by decide)
  have md : dMod (.int (seed * 69621 + c + 1)) (.int 2147483647) = some (.int sd) := by rw [hsd]; exact dmod_ok (by decide)
  have m1 : dMul (.int seed) (.int 69621) = some (.int (seed * 69621)) := mulOk_r (by decide)
  have md2 (x : Int) : dMod (.int x) (.int 65521) = some (.int (x % 65521)) := dmod_ok (by decide)
  have hl : L.length < 1000000 := by omega
  by_cases hb : L.length < m
  · refine ⟨drE ns m (L ++ [sd / 7 % 65521]) sd s4 s5 (.sh (.int c)), st, .inl ?_, _, sd, s4, s5, .sh (.int c), rfl, hs1, hs2, ?_, ?_, ?_, rfl⟩
    · simp [b1__law_draws, drE, Pd.fnS_ap, Pd.fin_ap, Pd.ret_ap, Pd.lft_ap, Pd.bnd_ap, Pd.rdv_ap, Pd.bin_ap, Pd.una_ap, Pd.lNil_ap, Pd.lCons_ap, Pd.mTup_ap, Pd.mLst_ap, Pd.asB_ap, Pd.asI_ap, Pd.asTru_ap, Pd.mAnd_ap, Pd.mOr_ap, Pd.mNot_ap, Pd.vAnd_ap, Pd.vOr_ap, Pd.vNot_ap, Pd.mIf_ap, Pd.chn_ap, Pd.sSeq_ap, Pd.sSkip_ap, Pd.sAsg_ap, Pd.setN_if, Pd.nfB_un, Pd.nfB_sh, Pd.nfB_ow, Pd.sAsgH_if, Pd.sRet_ap, Pd.sRetN_ap, Pd.sIf_ap, Pd.sRaise_ap, Pd.sDrop_ap, Pd.sBk_ap, Pd.sCt_ap, Pd.sAug_ap, Pd.sFldS_ap, Pd.hotI_ap, Pd.hotL_ap, Pd.ixh_ap, Pd.hotRead_ap, Pd.sApp_ap, Pd.lenh_ap, Pd.mCut_ap, Pd.mSeq_ap, Pd.mCall_ap, Pd.mCallN_ap, Pd.mMeth_ap, Pd.mMethN_ap, Pd.slf_ap, Pd.mMake_ap, Pd.back_sh, Pd.back_nw, Pd.backN_nw, Pd.backI_mk, Pd.add_ii, Pd.sub_ii, Pd.neg_i, Pd.int_i, Pd.int_b, Pd.lt_ii, Pd.le_ii, Pd.gt_ii, Pd.ge_ii, Pd.isN_non, Pd.isN_int, Pd.isN_tup, Pd.isN_lst, Pd.isN_obj, Pd.notN_non, Pd.notN_tup, Pd.notN_int, Pd.len_lst, Pd.len_tup, Pd.len_scr, Pd.tru_non, Pd.tru_bl, Pd.tru_int, Pd.tru_lst, Pd.tru_tup, Pd.eq_int, Pd.ne_int, List.replicate, List.length_cons, List.length_nil, List.append_nil, List.cons_append, List.nil_append, List.getElem?_cons_zero, List.getElem?_cons_succ, List.set_cons_zero, List.set_cons_succ, List.map_cons, List.map_nil, m1, md, hb, fdiv_ok, md2, hl]
    · rw [List.length_append, List.length_singleton]; omega
    · rw [List.length_append, List.length_singleton]; omega
    · intro x hx
      rcases List.mem_append.mp hx with hx | hx
      · exact h5 x hx
      · rw [List.mem_singleton.mp hx]; omega
  · refine ⟨drE ns m L seed s4 s5 (.sh (.int c)), st, .inl ?_, L, seed, s4, s5, .sh (.int c), rfl, h1, h2, by omega, by omega, h5, rfl⟩
    simp [b1__law_draws, drE, Pd.fnS_ap, Pd.fin_ap, Pd.ret_ap, Pd.lft_ap, Pd.bnd_ap, Pd.rdv_ap, Pd.bin_ap, Pd.una_ap, Pd.lNil_ap, Pd.lCons_ap, Pd.mTup_ap, Pd.mLst_ap, Pd.asB_ap, Pd.asI_ap, Pd.asTru_ap, Pd.mAnd_ap, Pd.mOr_ap, Pd.mNot_ap, Pd.vAnd_ap, Pd.vOr_ap, Pd.vNot_ap, Pd.mIf_ap, Pd.chn_ap, Pd.sSeq_ap, Pd.sSkip_ap, Pd.sAsg_ap, Pd.setN_if, Pd.nfB_un, Pd.nfB_sh, Pd.nfB_ow, Pd.sAsgH_if, Pd.sRet_ap, Pd.sRetN_ap, Pd.sIf_ap, Pd.sRaise_ap, Pd.sDrop_ap, Pd.sBk_ap, Pd.sCt_ap, Pd.sAug_ap, Pd.sFldS_ap, Pd.hotI_ap, Pd.hotL_ap, Pd.ixh_ap, Pd.hotRead_ap, Pd.sApp_ap, Pd.lenh_ap, Pd.mCut_ap, Pd.mSeq_ap, Pd.mCall_ap, Pd.mCallN_ap, Pd.mMeth_ap, Pd.mMethN_ap, Pd.slf_ap, Pd.mMake_ap, Pd.back_sh, Pd.back_nw, Pd.backN_nw, Pd.backI_mk, Pd.add_ii, Pd.sub_ii, Pd.neg_i, Pd.int_i, Pd.int_b, Pd.lt_ii, Pd.le_ii, Pd.gt_ii, Pd.ge_ii, Pd.isN_non, Pd.isN_int, Pd.isN_tup, Pd.isN_lst, Pd.isN_obj, Pd.notN_non, Pd.notN_tup, Pd.notN_int, Pd.len_lst, Pd.len_tup, Pd.len_scr, Pd.tru_non, Pd.tru_bl, Pd.tru_int, Pd.tru_lst, Pd.tru_tup, Pd.eq_int, Pd.ne_int, List.replicate, List.length_cons, List.length_nil, List.append_nil, List.cons_append, List.nil_append, List.getElem?_cons_zero, List.getElem?_cons_succ, List.set_cons_zero, List.set_cons_succ, List.map_cons, List.map_nil, hb]
theorem cutN (L : List D) (m : Nat) : cutD L none (some (m : Int)) = L.take m := by
  unfold cutD HT.sIx
  have h : ¬ (m : Int) < 0 := by omega
  simp [h]
theorem e_draws (ns : List Int) (m : Nat) (hm : m < 1000) : ∃ L : List Int, back (f__law_draws [.sh (.scr ns), .sh (.int (m : Int))]) = some (.lst (L.map .int)) ∧ L.length = m ∧ ∀ x ∈ L, 0 ≤ x := by
  obtain ⟨e1, z1, z2⟩ := for_ind (set := setN 4) (m := b3__law_draws) (drR ns m (60 * ·)) ((ns.take 63).map .int) (drE ns m [] 7 .un .un .un) 0 ⟨[], 7, .un, .un, .un, rfl, by decide, by decide, by simp, by simp, rfl, rfl, rfl⟩ (fun i d e hd hr => by
    rw [List.getElem?_map] at hd
    cases q : (ns.take 63)[i]? with
    | none => rw [q] at hd; cases hd
    | some c =>
      rw [q] at hd
      cases Option.some.inj hd
      have hi := (List.getElem?_eq_some_iff.mp q).1
      rw [List.length_take] at hi
      rw [Nat.zero_add] at hr ⊢
      exact dr_b2 (by omega) hr)
  obtain ⟨L1, seed, s4, s5, s6, rfl, h1, h2, h3, h4, h5, h6, h7⟩ := z2
  have hlen : L1.length ≤ 4000 := by
    simp only [List.length_map, List.length_take] at h3
    omega
  obtain ⟨e2, z3, z4⟩ := for_ind (set := setN 6) (m := b1__law_draws) (drR3 ns m) (rngD 0 m) _ 0 ⟨L1, seed, s4, s5, s6, rfl, h1, h2, .inl (Nat.zero_le _), by omega, h4, h7⟩ (fun i d e hd hr => by
    obtain ⟨q1, rfl⟩ := rngD_get hd
    rw [Nat.zero_add] at hr ⊢
    exact dr_b3 (by omega) (by omega) hr)
  obtain ⟨L2, seed2, t4, t5, t6, rfl, g1, g2, g3, g4, g5, g6⟩ := z4
  rw [rngD_len, Nat.zero_add] at g3
  have hl2 : m ≤ L2.length := by omega
  refine ⟨L2.take m, ?_, by rw [List.length_take]; omega, fun x hx => g5 x (List.mem_of_mem_take hx)⟩
  have fr1 (e : En) : sFor (mRng1 (rdv 1)) (setN 6) b1__law_draws (.sh (.scr ns) :: .sh (.int (m : Int)) :: e) = sForL (setN 6) b1__law_draws (rngD 0 m) (.sh (.scr ns) :: .sh (.int (m : Int)) :: e) := by
    refine (sFor_ok (mRng1_ok (n := (m : Int)) (by rfl) (by omega) (by omega))).trans ?_
    rfl
  have fr2 (e : En) : sFor (mCut (rdv 0) (Pd.ret none) (asI (Pd.ret (.int 63)))) (setN 4) b3__law_draws (.sh (.scr ns) :: e) = sForL (setN 4) b3__law_draws ((ns.take 63).map .int) (.sh (.scr ns) :: e) := by
    refine (sFor_ok (ds := (ns.take 63).map .int) (e1 := .sh (.scr ns) :: e) ?_).trans rfl
    simp [Pd.fnS_ap, Pd.fin_ap, Pd.ret_ap, Pd.lft_ap, Pd.bnd_ap, Pd.rdv_ap, Pd.bin_ap, Pd.una_ap, Pd.lNil_ap, Pd.lCons_ap, Pd.mTup_ap, Pd.mLst_ap, Pd.asB_ap, Pd.asI_ap, Pd.asTru_ap, Pd.mAnd_ap, Pd.mOr_ap, Pd.mNot_ap, Pd.vAnd_ap, Pd.vOr_ap, Pd.vNot_ap, Pd.mIf_ap, Pd.chn_ap, Pd.sSeq_ap, Pd.sSkip_ap, Pd.sAsg_ap, Pd.setN_if, Pd.nfB_un, Pd.nfB_sh, Pd.nfB_ow, Pd.sAsgH_if, Pd.sRet_ap, Pd.sRetN_ap, Pd.sIf_ap, Pd.sRaise_ap, Pd.sDrop_ap, Pd.sBk_ap, Pd.sCt_ap, Pd.sAug_ap, Pd.sFldS_ap, Pd.hotI_ap, Pd.hotL_ap, Pd.ixh_ap, Pd.hotRead_ap, Pd.sApp_ap, Pd.lenh_ap, Pd.mCut_ap, Pd.mSeq_ap, Pd.mCall_ap, Pd.mCallN_ap, Pd.mMeth_ap, Pd.mMethN_ap, Pd.slf_ap, Pd.mMake_ap, Pd.back_sh, Pd.back_nw, Pd.backN_nw, Pd.backI_mk, Pd.add_ii, Pd.sub_ii, Pd.neg_i, Pd.int_i, Pd.int_b, Pd.lt_ii, Pd.le_ii, Pd.gt_ii, Pd.ge_ii, Pd.isN_non, Pd.isN_int, Pd.isN_tup, Pd.isN_lst, Pd.isN_obj, Pd.notN_non, Pd.notN_tup, Pd.notN_int, Pd.len_lst, Pd.len_tup, Pd.len_scr, Pd.tru_non, Pd.tru_bl, Pd.tru_int, Pd.tru_lst, Pd.tru_tup, Pd.eq_int, Pd.ne_int, List.replicate, List.length_cons, List.length_nil, List.append_nil, List.cons_append, List.nil_append, List.getElem?_cons_zero, List.getElem?_cons_succ, List.set_cons_zero, List.set_cons_succ, List.map_cons, List.map_nil, cut63]
  have q1 : m__law_draws [.sh (.scr ns), .sh (.int (m : Int)), .un, .un, .un, .un, .un] = some (.rt (.sh (.lst ((L2.take m).map .int))) ((drE ns m L2 seed2 t4 t5 t6).set 2 (.sh (.lst (L2.map .int))))) := by
    unfold m__law_draws
    rw [sSeq_nx (e1 := [.sh (.scr ns), .sh (.int (m : Int)), .ow false (.lst []), .un, .un, .un, .un]) (by rfl)]
    rw [sSeq_nx (e1 := drE ns m [] 7 .un .un .un) (by rfl)]
    have w1 : sFor (mCut (rdv 0) (Pd.ret none) (asI (Pd.ret (.int 63)))) (setN 4) b3__law_draws (drE ns m [] 7 .un .un .un) = some (.nx (drE ns m L1 seed s4 s5 s6)) := (fr2 _).trans z1
    have w2 : sFor (mRng1 (rdv 1)) (setN 6) b1__law_draws (drE ns m L1 seed s4 s5 s6) = some (.nx (drE ns m L2 seed2 t4 t5 t6)) := (fr1 _).trans z3
    rw [sSeq_nx w1, sSeq_nx w2]
    rw [sRet_ap, mLst_ap]
    have q2 : mCut (rdv 2) (Pd.ret none) (asI (rdv 1)) (drE ns m L2 seed2 t4 t5 t6) = some (cutD (L2.map .int) none (some (m : Int)), (drE ns m L2 seed2 t4 t5 t6).set 2 (.sh (.lst (L2.map .int)))) := by rfl
    rw [q2, cutN, List.map_take]
  unfold f__law_draws
  rw [fnS_ap]
  show back (match m__law_draws [.sh (.scr ns), .sh (.int (m : Int)), .un, .un, .un, .un, .un] with | some (.nx e) => fin _ (.rt (.sh .non)) e | some (.rt r e) => fin _ (.rt r) e | some (.ex c e) => fin _ (.ex c) e | _ => none) = _
  rw [q1]
  rfl
end Lk66
set_option Elab.async false
set_option linter.all false
set_option maxRecDepth 100000
set_option maxHeartbeats 4000000
namespace Lk66
open PySem L2 Pd Fq
/-! ### the law's own field -/
def restB : Bool := primes.all fun x => match back (f__law_rest [.sh (.int (x.1 : Int))]) with
  | some (.int i) => decide (i = x.2)
  | _ => false
theorem restB_ok : restB = true := by decide +kernel
section
variable {p r : Nat} [NeZero p] [g : GoodO p r]
theorem e_rest : back (f__law_rest [.sh (.int (p : Int))]) = some (.int (r : Int)) := by
  have h := List.all_eq_true.mp restB_ok (p, r) g.mem
  simp only at h
  split at h
  · rename_i i z
    rw [of_decide_eq_true h] at z
    exact z
  · cases h
theorem e_lplus (x y : El p r) : back (f__law_plus [.sh (.int (p : Int)), .sh (prF x), .sh (prF y)]) = some (prF (x + y)) := by
  simp [f__law_plus, m__law_plus, Pd.fnS_ap, Pd.fin_ap, Pd.ret_ap, Pd.lft_ap, Pd.bnd_ap, Pd.rdv_ap, Pd.bin_ap, Pd.una_ap, Pd.lNil_ap, Pd.lCons_ap, Pd.mTup_ap, Pd.mLst_ap, Pd.asB_ap, Pd.asI_ap, Pd.asTru_ap, Pd.mAnd_ap, Pd.mOr_ap, Pd.mNot_ap, Pd.vAnd_ap, Pd.vOr_ap, Pd.vNot_ap, Pd.mIf_ap, Pd.chn_ap, Pd.sSeq_ap, Pd.sSkip_ap, Pd.sAsg_ap, Pd.setN_if, Pd.nfB_un, Pd.nfB_sh, Pd.nfB_ow, Pd.sAsgH_if, Pd.sRet_ap, Pd.sRetN_ap, Pd.sIf_ap, Pd.sRaise_ap, Pd.sDrop_ap, Pd.sBk_ap, Pd.sCt_ap, Pd.sAug_ap, Pd.sFldS_ap, Pd.hotI_ap, Pd.hotL_ap, Pd.ixh_ap, Pd.hotRead_ap, Pd.sApp_ap, Pd.lenh_ap, Pd.mCut_ap, Pd.mSeq_ap, Pd.mCall_ap, Pd.mCallN_ap, Pd.mMeth_ap, Pd.mMethN_ap, Pd.slf_ap, Pd.mMake_ap, Pd.back_sh, Pd.back_nw, Pd.backN_nw, Pd.backI_mk, Pd.add_ii, Pd.sub_ii, Pd.neg_i, Pd.int_i, Pd.int_b, Pd.lt_ii, Pd.le_ii, Pd.gt_ii, Pd.ge_ii, Pd.isN_non, Pd.isN_int, Pd.isN_tup, Pd.isN_lst, Pd.isN_obj, Pd.notN_non, Pd.notN_tup, Pd.notN_int, Pd.len_lst, Pd.len_tup, Pd.len_scr, Pd.tru_non, Pd.tru_bl, Pd.tru_int, Pd.tru_lst, Pd.tru_tup, Pd.eq_int, Pd.ne_int, List.replicate, List.length_cons, List.length_nil, List.append_nil, List.cons_append, List.nil_append, List.getElem?_cons_zero, List.getElem?_cons_succ, List.set_cons_zero, List.set_cons_succ, List.map_cons, List.map_nil, ix0, ix1, mod_p]
  exact pr_of (by simp only [toF_add, toF_self, add_a]) (by simp only [toF_add, toF_self, add_b])
theorem e_lminus (x y : El p r) : back (f__law_minus [.sh (.int (p : Int)), .sh (prF x), .sh (prF y)]) = some (prF (x - y)) := by
  simp [f__law_minus, m__law_minus, Pd.fnS_ap, Pd.fin_ap, Pd.ret_ap, Pd.lft_ap, Pd.bnd_ap, Pd.rdv_ap, Pd.bin_ap, Pd.una_ap, Pd.lNil_ap, Pd.lCons_ap, Pd.mTup_ap, Pd.mLst_ap, Pd.asB_ap, Pd.asI_ap, Pd.asTru_ap, Pd.mAnd_ap, Pd.mOr_ap, Pd.mNot_ap, Pd.vAnd_ap, Pd.vOr_ap, Pd.vNot_ap, Pd.mIf_ap, Pd.chn_ap, Pd.sSeq_ap, Pd.sSkip_ap, Pd.sAsg_ap, Pd.setN_if, Pd.nfB_un, Pd.nfB_sh, Pd.nfB_ow, Pd.sAsgH_if, Pd.sRet_ap, Pd.sRetN_ap, Pd.sIf_ap, Pd.sRaise_ap, Pd.sDrop_ap, Pd.sBk_ap, Pd.sCt_ap, Pd.sAug_ap, Pd.sFldS_ap, Pd.hotI_ap, Pd.hotL_ap, Pd.ixh_ap, Pd.hotRead_ap, Pd.sApp_ap, Pd.lenh_ap, Pd.mCut_ap, Pd.mSeq_ap, Pd.mCall_ap, Pd.mCallN_ap, Pd.mMeth_ap, Pd.mMethN_ap, Pd.slf_ap, Pd.mMake_ap, Pd.back_sh, Pd.back_nw, Pd.backN_nw, Pd.backI_mk, Pd.add_ii, Pd.sub_ii, Pd.neg_i, Pd.int_i, Pd.int_b, Pd.lt_ii, Pd.le_ii, Pd.gt_ii, Pd.ge_ii, Pd.isN_non, Pd.isN_int, Pd.isN_tup, Pd.isN_lst, Pd.isN_obj, Pd.notN_non, Pd.notN_tup, Pd.notN_int, Pd.len_lst, Pd.len_tup, Pd.len_scr, Pd.tru_non, Pd.tru_bl, Pd.tru_int, Pd.tru_lst, Pd.tru_tup, Pd.eq_int, Pd.ne_int, List.replicate, List.length_cons, List.length_nil, List.append_nil, List.cons_append, List.nil_append, List.getElem?_cons_zero, List.getElem?_cons_succ, List.set_cons_zero, List.set_cons_succ, List.map_cons, List.map_nil, ix0, ix1, mod_p]
  exact pr_of (by simp only [toF_sub, toF_self, sub_a]) (by simp only [toF_sub, toF_self, sub_b])
theorem e_ltimes (x y : El p r) : back (f__law_times [.sh (.int (p : Int)), .sh (prF x), .sh (prF y)]) = some (prF (x * y)) := by
  simp [f__law_times, m__law_times, Pd.fnS_ap, Pd.fin_ap, Pd.ret_ap, Pd.lft_ap, Pd.bnd_ap, Pd.rdv_ap, Pd.bin_ap, Pd.una_ap, Pd.lNil_ap, Pd.lCons_ap, Pd.mTup_ap, Pd.mLst_ap, Pd.asB_ap, Pd.asI_ap, Pd.asTru_ap, Pd.mAnd_ap, Pd.mOr_ap, Pd.mNot_ap, Pd.vAnd_ap, Pd.vOr_ap, Pd.vNot_ap, Pd.mIf_ap, Pd.chn_ap, Pd.sSeq_ap, Pd.sSkip_ap, Pd.sAsg_ap, Pd.setN_if, Pd.nfB_un, Pd.nfB_sh, Pd.nfB_ow, Pd.sAsgH_if, Pd.sRet_ap, Pd.sRetN_ap, Pd.sIf_ap, Pd.sRaise_ap, Pd.sDrop_ap, Pd.sBk_ap, Pd.sCt_ap, Pd.sAug_ap, Pd.sFldS_ap, Pd.hotI_ap, Pd.hotL_ap, Pd.ixh_ap, Pd.hotRead_ap, Pd.sApp_ap, Pd.lenh_ap, Pd.mCut_ap, Pd.mSeq_ap, Pd.mCall_ap, Pd.mCallN_ap, Pd.mMeth_ap, Pd.mMethN_ap, Pd.slf_ap, Pd.mMake_ap, Pd.back_sh, Pd.back_nw, Pd.backN_nw, Pd.backI_mk, Pd.add_ii, Pd.sub_ii, Pd.neg_i, Pd.int_i, Pd.int_b, Pd.lt_ii, Pd.le_ii, Pd.gt_ii, Pd.ge_ii, Pd.isN_non, Pd.isN_int, Pd.isN_tup, Pd.isN_lst, Pd.isN_obj, Pd.notN_non, Pd.notN_tup, Pd.notN_int, Pd.len_lst, Pd.len_tup, Pd.len_scr, Pd.tru_non, Pd.tru_bl, Pd.tru_int, Pd.tru_lst, Pd.tru_tup, Pd.eq_int, Pd.ne_int, List.replicate, List.length_cons, List.length_nil, List.append_nil, List.cons_append, List.nil_append, List.getElem?_cons_zero, List.getElem?_cons_succ, List.set_cons_zero, List.set_cons_succ, List.map_cons, List.map_nil, ix0, ix1, mod_p, e_rest (r := r), mul_v g.le97]
  exact pr_of (by simp only [toF_add, toF_mul, toF_self, mul_a]; rfl) (by simp only [toF_add, toF_mul, toF_self, mul_b])
/-- the power: square and multiply -/
def poE (f a : El p r) (n : Nat) (s : Sl) : En := [.sh (.int (p : Int)), .sh (prF a), .sh (.int (n : Int)), .sh (prF f), s]
def poR (w : El p r) (i : Nat) (e : En) : Prop := ∃ (f a : El p r) (n : Nat) (s : Sl), e = poE f a n s ∧ powL (20 - i) f a n = w ∧ nfB s = true
end
end Lk66
set_option Elab.async false
set_option linter.all false
set_option maxRecDepth 100000
set_option maxHeartbeats 4000000
namespace Lk66
open PySem L2 Pd Fq
theorem ne_zero_iff {p r : Nat} [NeZero p] {x y : El p r} : (!decide (x = y)) = true ↔ x ≠ y := by simp
/-! ### primes, fields made -/
def prD : List D := primes.map fun x => D.int (x.1 : Int)
theorem prD_eq : prD = [.int 5, .int 7, .int 11, .int 13, .int 17, .int 19, .int 23, .int 29, .int 31, .int 37, .int 41, .int 43, .int 47, .int 53, .int 59, .int 61, .int 67, .int 71, .int 73, .int 79, .int 83, .int 89, .int 97] := by rfl
theorem len_prD : prD.length = 23 := by rfl
theorem lc_prD (d : Int) : lcS (mSeq (rdv 2)) [4] (setN 4) (asB (bin dLe (rdv 4) (rdv 1))) (rdv 4) [.sh (.int d), .sh (.int 97), .sh (.lst prD), .un, .un] = some (prD, [.sh (.int d), .sh (.int 97), .sh (.lst prD), .un, .un]) := by
  have w : lcS (mSeq (rdv 2)) [4] (setN 4) (asB (bin dLe (rdv 4) (rdv 1))) (rdv 4) [.sh (.int d), .sh (.int 97), .sh (.lst prD), .un, .un] = some ((prD.filter fun _ => true).map id, [.sh (.int d), .sh (.int 97), .sh (.lst prD), .un, .un]) := by
    refine lcS_pure _ _ (by rfl) (by rfl) (by rfl) (by rw [len_prD]; decide) fun y hy => ?_
    obtain ⟨x, hx, rfl⟩ := List.mem_map.mp hy
    have h97 := of_decide_eq_true (List.all_eq_true.mp primes_97 x hx)
    refine ⟨_, rfl, ?_, fun _ => rfl, rfl⟩
    have e97 : decide ((x.1 : Int) ≤ 97) = true := decide_eq_true (by omega)
    simp [Pd.fnS_ap, Pd.fin_ap, Pd.ret_ap, Pd.lft_ap, Pd.bnd_ap, Pd.rdv_ap, Pd.bin_ap, Pd.una_ap, Pd.lNil_ap, Pd.lCons_ap, Pd.mTup_ap, Pd.mLst_ap, Pd.asB_ap, Pd.asI_ap, Pd.asTru_ap, Pd.mAnd_ap, Pd.mOr_ap, Pd.mNot_ap, Pd.vAnd_ap, Pd.vOr_ap, Pd.vNot_ap, Pd.mIf_ap, Pd.chn_ap, Pd.sSeq_ap, Pd.sSkip_ap, Pd.sAsg_ap, Pd.setN_if, Pd.nfB_un, Pd.nfB_sh, Pd.nfB_ow, Pd.sAsgH_if, Pd.sRet_ap, Pd.sRetN_ap, Pd.sIf_ap, Pd.sRaise_ap, Pd.sDrop_ap, Pd.sBk_ap, Pd.sCt_ap, Pd.sAug_ap, Pd.sFldS_ap, Pd.hotI_ap, Pd.hotL_ap, Pd.ixh_ap, Pd.hotRead_ap, Pd.sApp_ap, Pd.lenh_ap, Pd.mCut_ap, Pd.mSeq_ap, Pd.mCall_ap, Pd.mCallN_ap, Pd.mMeth_ap, Pd.mMethN_ap, Pd.slf_ap, Pd.mMake_ap, Pd.back_sh, Pd.back_nw, Pd.backN_nw, Pd.backI_mk, Pd.add_ii, Pd.sub_ii, Pd.neg_i, Pd.int_i, Pd.int_b, Pd.lt_ii, Pd.le_ii, Pd.gt_ii, Pd.ge_ii, Pd.isN_non, Pd.isN_int, Pd.isN_tup, Pd.isN_lst, Pd.isN_obj, Pd.notN_non, Pd.notN_tup, Pd.notN_int, Pd.len_lst, Pd.len_tup, Pd.len_scr, Pd.tru_non, Pd.tru_bl, Pd.tru_int, Pd.tru_lst, Pd.tru_tup, Pd.eq_int, Pd.ne_int, List.replicate, List.length_cons, List.length_nil, List.append_nil, List.cons_append, List.nil_append, List.getElem?_cons_zero, List.getElem?_cons_succ, List.set_cons_zero, List.set_cons_succ, List.map_cons, List.map_nil, e97]
  rw [List.filter_eq_self.mpr (fun _ _ => rfl), List.map_id] at w
  exact w
theorem prD_run (d : Int) {i : Int} {y : D} (hi : d % 23 = i) (h : dIx (.lst prD) (.int i) = some y) : m__law_prime [.sh (.int d), .sh (.int 97), .un, .un, .un] = some (.rt (.sh y) [.sh (.int d), .sh (.int 97), .sh (.lst prD), .sh (.lst prD), .un]) := by
  have dm : dMod (.int d) (.int 23) = some (.int i) := by rw [← hi]; exact dmod_ok (by decide)
  simp [m__law_prime, Pd.fnS_ap, Pd.fin_ap, Pd.ret_ap, Pd.lft_ap, Pd.bnd_ap, Pd.rdv_ap, Pd.bin_ap, Pd.una_ap, Pd.lNil_ap, Pd.lCons_ap, Pd.mTup_ap, Pd.mLst_ap, Pd.asB_ap, Pd.asI_ap, Pd.asTru_ap, Pd.mAnd_ap, Pd.mOr_ap, Pd.mNot_ap, Pd.vAnd_ap, Pd.vOr_ap, Pd.vNot_ap, Pd.mIf_ap, Pd.chn_ap, Pd.sSeq_ap, Pd.sSkip_ap, Pd.sAsg_ap, Pd.setN_if, Pd.nfB_un, Pd.nfB_sh, Pd.nfB_ow, Pd.sAsgH_if, Pd.sRet_ap, Pd.sRetN_ap, Pd.sIf_ap, Pd.sRaise_ap, Pd.sDrop_ap, Pd.sBk_ap, Pd.sCt_ap, Pd.sAug_ap, Pd.sFldS_ap, Pd.hotI_ap, Pd.hotL_ap, Pd.ixh_ap, Pd.hotRead_ap, Pd.sApp_ap, Pd.lenh_ap, Pd.mCut_ap, Pd.mSeq_ap, Pd.mCall_ap, Pd.mCallN_ap, Pd.mMeth_ap, Pd.mMethN_ap, Pd.slf_ap, Pd.mMake_ap, Pd.back_sh, Pd.back_nw, Pd.backN_nw, Pd.backI_mk, Pd.add_ii, Pd.sub_ii, Pd.neg_i, Pd.int_i, Pd.int_b, Pd.lt_ii, Pd.le_ii, Pd.gt_ii, Pd.ge_ii, Pd.isN_non, Pd.isN_int, Pd.isN_tup, Pd.isN_lst, Pd.isN_obj, Pd.notN_non, Pd.notN_tup, Pd.notN_int, Pd.len_lst, Pd.len_tup, Pd.len_scr, Pd.tru_non, Pd.tru_bl, Pd.tru_int, Pd.tru_lst, Pd.tru_tup, Pd.eq_int, Pd.ne_int, List.replicate, List.length_cons, List.length_nil, List.append_nil, List.cons_append, List.nil_append, List.getElem?_cons_zero, List.getElem?_cons_succ, List.set_cons_zero, List.set_cons_succ, List.map_cons, List.map_nil, ← prD_eq, lc_prD, len_prD, dm, h]
theorem e_prime (d : Int) : ∃ x ∈ primes, back (f__law_prime [.sh (.int d), .sh (.int 97)]) = some (.int (x.1 : Int)) := by
  have h0 : 0 ≤ d % 23 := Int.emod_nonneg _ (by decide)
  have h1 : d % 23 < 23 := Int.emod_lt_of_pos _ (by decide)
  obtain ⟨i, hi⟩ : ∃ i, d % 23 = i := ⟨_, rfl⟩
  rw [hi] at h0 h1
  have hl : i.toNat < primes.length := by show _ < 23; omega
  have e1 : prD[i.toNat]? = some (.int ((primes[i.toNat]).1 : Int)) := by
    unfold prD
    rw [List.getElem?_map, List.getElem?_eq_getElem hl] <;> rfl
  refine ⟨primes[i.toNat], List.getElem_mem hl, ?_⟩
  have q := prD_run d hi (ix_nat h0 e1)
  simp [f__law_prime, Pd.fnS_ap, Pd.fin_ap, Pd.ret_ap, Pd.lft_ap, Pd.bnd_ap, Pd.rdv_ap, Pd.bin_ap, Pd.una_ap, Pd.lNil_ap, Pd.lCons_ap, Pd.mTup_ap, Pd.mLst_ap, Pd.asB_ap, Pd.asI_ap, Pd.asTru_ap, Pd.mAnd_ap, Pd.mOr_ap, Pd.mNot_ap, Pd.vAnd_ap, Pd.vOr_ap, Pd.vNot_ap, Pd.mIf_ap, Pd.chn_ap, Pd.sSeq_ap, Pd.sSkip_ap, Pd.sAsg_ap, Pd.setN_if, Pd.nfB_un, Pd.nfB_sh, Pd.nfB_ow, Pd.sAsgH_if, Pd.sRet_ap, Pd.sRetN_ap, Pd.sIf_ap, Pd.sRaise_ap, Pd.sDrop_ap, Pd.sBk_ap, Pd.sCt_ap, Pd.sAug_ap, Pd.sFldS_ap, Pd.hotI_ap, Pd.hotL_ap, Pd.ixh_ap, Pd.hotRead_ap, Pd.sApp_ap, Pd.lenh_ap, Pd.mCut_ap, Pd.mSeq_ap, Pd.mCall_ap, Pd.mCallN_ap, Pd.mMeth_ap, Pd.mMethN_ap, Pd.slf_ap, Pd.mMake_ap, Pd.back_sh, Pd.back_nw, Pd.backN_nw, Pd.backI_mk, Pd.add_ii, Pd.sub_ii, Pd.neg_i, Pd.int_i, Pd.int_b, Pd.lt_ii, Pd.le_ii, Pd.gt_ii, Pd.ge_ii, Pd.isN_non, Pd.isN_int, Pd.isN_tup, Pd.isN_lst, Pd.isN_obj, Pd.notN_non, Pd.notN_tup, Pd.notN_int, Pd.len_lst, Pd.len_tup, Pd.len_scr, Pd.tru_non, Pd.tru_bl, Pd.tru_int, Pd.tru_lst, Pd.tru_tup, Pd.eq_int, Pd.ne_int, List.replicate, List.length_cons, List.length_nil, List.append_nil, List.cons_append, List.nil_append, List.getElem?_cons_zero, List.getElem?_cons_succ, List.set_cons_zero, List.set_cons_succ, List.map_cons, List.map_nil, q]
/-- Field(p), by the program -/
def mkB : Bool := primes.all fun x => match backI "Field" (f_Field___init__ [.ow true (.ins "Field" []), .sh (.int (x.1 : Int))]) with
  | some (.obj c [(f1, .int i), (f2, .int j), (f3, .lst l)]) => decide (c = "Field") && (decide (f1 = "p") && (decide (i = x.1) && (decide (f2 = "rest") && (decide (j = x.2) && (decide (f3 = "_inverses") && decide (allInts l = some (invs (x.1 : Int))))))))
  | _ => false
theorem mkB_ok : mkB = true := by decide +kernel
theorem ints_of : ∀ {l : List D} {ns : List Int}, allInts l = some ns → l = ns.map .int := fun h => allInts_eq h
theorem e_make {x : Nat × Nat} (h : x ∈ primes) : backI "Field" (f_Field___init__ [.ow true (.ins "Field" []), .sh (.int (x.1 : Int))]) = some (.obj "Field" (fldF x.1 x.2)) := by
  have h := List.all_eq_true.mp mkB_ok x h
  split at h
  · rename_i c f1 i f2 j f3 l z
    simp only [Bool.and_eq_true, decide_eq_true_eq] at h
    obtain ⟨h1, h2, h3, h4, h5, h6, h7⟩ := h
    rw [z, h1, h2, h3, h4, h5, h6, ints_of h7] <;> rfl
  · cases h
section
variable {p r : Nat} [NeZero p] [g : GoodO p r]
theorem prD_lt {z : Int} (h0 : 0 ≤ z) (h : z < p) : ∃ a : Fin p, z = (a.val : Int) := ⟨⟨z.toNat, by omega⟩, by show z = ((z.toNat : Nat) : Int); omega⟩
/-- what a member is -/
theorem e_member (one two : Int) : ∃ x : El p r, back (f__law_member [.sh (.int (p : Int)), .sh (.int one), .sh (.int two)]) = some (prF x) := by
  have h5 := g.five
  have hp : (0 : Int) < p := by omega
  have a0 : 0 ≤ one / 7 % p := Int.emod_nonneg _ (by omega)
  have a1 : one / 7 % p < p := Int.emod_lt_of_pos _ hp
  have b0 : 0 ≤ two / 5 % p := Int.emod_nonneg _ (by omega)
  have b1 : two / 5 % p < p := Int.emod_lt_of_pos _ hp
  have i0 : 0 ≤ one % 6 := Int.emod_nonneg _ (by decide)
  have i1 : one % 6 < 6 := Int.emod_lt_of_pos _ (by decide)
  have j0 : 0 ≤ two % 4 := Int.emod_nonneg _ (by decide)
  have j1 : two % 4 < 4 := Int.emod_lt_of_pos _ (by decide)
  have k1 : ∃ a : Fin p, ([.int 0, .int 1, .int ((p : Int) - 1), .int (one / 7 % p), .int (one / 7 % p), .int (one / 7 % p)] : List D)[(one % 6).toNat]? = some (.int (a.val : Int)) := by
    have c : (one % 6).toNat = 0 ∨ (one % 6).toNat = 1 ∨ (one % 6).toNat = 2 ∨ (one % 6).toNat = 3 ∨ (one % 6).toNat = 4 ∨ (one % 6).toNat = 5 := by omega
    obtain ⟨x0, y0⟩ := prD_lt (p := p) (z := 0) (by omega) (by omega)
    obtain ⟨x1, y1⟩ := prD_lt (p := p) (z := 1) (by omega) (by omega)
    obtain ⟨x2, y2⟩ := prD_lt (p := p) (z := (p : Int) - 1) (by omega) (by omega)
    obtain ⟨x3, y3⟩ := prD_lt (p := p) (z := one / 7 % p) a0 a1
    rcases c with c | c | c | c | c | c <;> rw [c]
    · exact ⟨x0, by rw [← y0] <;> rfl⟩
    · exact ⟨x1, by rw [← y1] <;> rfl⟩
    · exact ⟨x2, by rw [← y2] <;> rfl⟩
    · exact ⟨x3, by rw [← y3] <;> rfl⟩
    · exact ⟨x3, by rw [← y3] <;> rfl⟩
    · exact ⟨x3, by rw [← y3] <;> rfl⟩
  have k2 : ∃ a : Fin p, ([.int 0, .int (two / 5 % p), .int (two / 5 % p), .int ((p : Int) - 1)] : List D)[(two % 4).toNat]? = some (.int (a.val : Int)) := by
    have c : (two % 4).toNat = 0 ∨ (two % 4).toNat = 1 ∨ (two % 4).toNat = 2 ∨ (two % 4).toNat = 3 := by omega
    obtain ⟨x0, y0⟩ := prD_lt (p := p) (z := 0) (by omega) (by omega)
    obtain ⟨x2, y2⟩ := prD_lt (p := p) (z := (p : Int) - 1) (by omega) (by omega)
    obtain ⟨x3, y3⟩ := prD_lt (p := p) (z := two / 5 % p) b0 b1
    rcases c with c | c | c | c <;> rw [c]
    · exact ⟨x0, by rw [← y0] <;> rfl⟩
    · exact ⟨x3, by rw [← y3] <;> rfl⟩
    · exact ⟨x3, by rw [← y3] <;> rfl⟩
    · exact ⟨x2, by rw [← y2] <;> rfl⟩
  obtain ⟨a, ha⟩ := k1
  obtain ⟨b, hb⟩ := k2
  refine ⟨⟨a, b⟩, ?_⟩
  have m6 : dMod (.int one) (.int 6) = some (.int (one % 6)) := dmod_ok (by decide)
  have m4 : dMod (.int two) (.int 4) = some (.int (two % 4)) := dmod_ok (by decide)
  have f7 : dFdiv (.int one) (.int 7) = some (.int (one / 7)) := fdiv_ok (by decide) (by decide)
  have f5 : dFdiv (.int two) (.int 5) = some (.int (two / 5)) := fdiv_ok (by decide) (by decide)
  simp [f__law_member, m__law_member, Pd.fnS_ap, Pd.fin_ap, Pd.ret_ap, Pd.lft_ap, Pd.bnd_ap, Pd.rdv_ap, Pd.bin_ap, Pd.una_ap, Pd.lNil_ap, Pd.lCons_ap, Pd.mTup_ap, Pd.mLst_ap, Pd.asB_ap, Pd.asI_ap, Pd.asTru_ap, Pd.mAnd_ap, Pd.mOr_ap, Pd.mNot_ap, Pd.vAnd_ap, Pd.vOr_ap, Pd.vNot_ap, Pd.mIf_ap, Pd.chn_ap, Pd.sSeq_ap, Pd.sSkip_ap, Pd.sAsg_ap, Pd.setN_if, Pd.nfB_un, Pd.nfB_sh, Pd.nfB_ow, Pd.sAsgH_if, Pd.sRet_ap, Pd.sRetN_ap, Pd.sIf_ap, Pd.sRaise_ap, Pd.sDrop_ap, Pd.sBk_ap, Pd.sCt_ap, Pd.sAug_ap, Pd.sFldS_ap, Pd.hotI_ap, Pd.hotL_ap, Pd.ixh_ap, Pd.hotRead_ap, Pd.sApp_ap, Pd.lenh_ap, Pd.mCut_ap, Pd.mSeq_ap, Pd.mCall_ap, Pd.mCallN_ap, Pd.mMeth_ap, Pd.mMethN_ap, Pd.slf_ap, Pd.mMake_ap, Pd.back_sh, Pd.back_nw, Pd.backN_nw, Pd.backI_mk, Pd.add_ii, Pd.sub_ii, Pd.neg_i, Pd.int_i, Pd.int_b, Pd.lt_ii, Pd.le_ii, Pd.gt_ii, Pd.ge_ii, Pd.isN_non, Pd.isN_int, Pd.isN_tup, Pd.isN_lst, Pd.isN_obj, Pd.notN_non, Pd.notN_tup, Pd.notN_int, Pd.len_lst, Pd.len_tup, Pd.len_scr, Pd.tru_non, Pd.tru_bl, Pd.tru_int, Pd.tru_lst, Pd.tru_tup, Pd.eq_int, Pd.ne_int, List.replicate, List.length_cons, List.length_nil, List.append_nil, List.cons_append, List.nil_append, List.getElem?_cons_zero, List.getElem?_cons_succ, List.set_cons_zero, List.set_cons_succ, List.map_cons, List.map_nil, m6, m4, f7, f5, mod_p, ix_nat i0 ha, ix_nat j0 hb]
  rfl
def crvF (p r : Nat) (a b : D) : List (Str × D) := [("field", .obj "Field" (fldF p r)), ("a", a), ("b", b)]
theorem crv_field (a b : D) : dFld "Curve" "field" (.obj "Curve" (crvF p r a b)) = some (.obj "Field" (fldF p r)) := rfl
theorem crv_a (a b : D) : dFld "Curve" "a" (.obj "Curve" (crvF p r a b)) = some a := rfl
theorem crv_b (a b : D) : dFld "Curve" "b" (.obj "Curve" (crvF p r a b)) = some b := rfl
theorem crv_no_mark (a b : D) : List.lookup ("mark" : Str) (crvF p r a b) = none := by rfl
/-- 4 a^3 + 27 b^2 -/
def disc (a b : El p r) : El p r := ((4 : Nat) : El p r) * (a * (a * a)) + ((27 : Nat) : El p r) * (b * b)
theorem nu1728 : back (f_Field_number [.sh (.obj "Field" (fldF p r)), .sh (.int 1728)]) = some (prF (((1728 : Nat) : El p r))) := e_number 1728
theorem eq_zero (x : El p r) : dEq (prF x) (.tup [.int 0, .int 0]) = some (.bl (decide (x = 0))) := by
  rw [← prF_zero (p := p) (r := r)]
  exact eq_pr x 0
end
end Lk66
set_option Elab.async false
set_option linter.all false
set_option maxRecDepth 100000
set_option maxHeartbeats 4000000
namespace Lk66
open PySem L2 Pd Fq
section
variable {p r : Nat} [NeZero p] [g : GoodO p r]
/-! ### marks -/
theorem toF_ne {n : Nat} (h : n % p ≠ 0) : ((n : Nat) : El p r) ≠ 0 := fun z => by
  have h1 : toF (p := p) (n : Int) = 0 := by
    have := congrArg El.a z
    rw [zero_a] at this
    exact this
  have h2 := val_of h1
  have h3 : ((0 : Fin p)).val = 0 := by simp
  rw [h3] at h2
  omega
theorem two_ne : ((2 : Nat) : El p r) ≠ 0 := toF_ne (by rw [Nat.mod_eq_of_lt (by have := g.five; omega)]; decide)
theorem three_ne : ((3 : Nat) : El p r) ≠ 0 := toF_ne (by rw [Nat.mod_eq_of_lt (by have := g.five; omega)]; decide)
theorem cast_mul (m n : Nat) : ((m * n : Nat) : El p r) = (m : El p r) * (n : El p r) := El.ext' (by
  show toF (((m * n : Nat) : Int)) = toF (m : Int) * toF (n : Int) + rr p r * 0 * 0
  rw [Int.natCast_mul, toF_mul]; grind) (by show (0 : Fin p) = toF (m : Int) * 0 + 0 * toF (n : Int); grind)
theorem cast_ne {m n : Nat} (h1 : ((m : Nat) : El p r) ≠ 0) (h2 : ((n : Nat) : El p r) ≠ 0) : ((m * n : Nat) : El p r) ≠ 0 := by
  rw [cast_mul]
  exact mul_ne h1 h2
theorem four_ne : ((4 : Nat) : El p r) ≠ 0 := cast_ne (m := 2) (n := 2) two_ne two_ne
theorem c27_ne : ((27 : Nat) : El p r) ≠ 0 := cast_ne (m := 9) (n := 3) (cast_ne (m := 3) (n := 3) three_ne three_ne) three_ne
theorem c108_ne : ((108 : Nat) : El p r) ≠ 0 := cast_ne (m := 4) (n := 27) four_ne c27_ne
theorem c1728_ne : ((1728 : Nat) : El p r) ≠ 0 := cast_ne (m := 108) (n := 16) c108_ne (cast_ne (m := 4) (n := 4) four_ne four_ne)
def mk (a b : El p r) : El p r := ((1728 : Nat) : El p r) * ((((4 : Nat) : El p r) * (a * (a * a))) / disc a b)
theorem mk_of {a b m : El p r} (h : disc a b ≠ 0) (e : ((1728 : Nat) : El p r) * (((4 : Nat) : El p r) * (a * (a * a))) = m * disc a b) : mk a b = m := by
  have h1 := mul_inv h
  show ((1728 : Nat) : El p r) * ((((4 : Nat) : El p r) * (a * (a * a))) * (disc a b)⁻¹) = m
  have h2 : ((1728 : Nat) : El p r) * ((((4 : Nat) : El p r) * (a * (a * a))) * (disc a b)⁻¹) = (((1728 : Nat) : El p r) * (((4 : Nat) : El p r) * (a * (a * a)))) * (disc a b)⁻¹ := by grind
  rw [h2, e]
  grind
theorem mk_eq {a b : El p r} (h : disc a b ≠ 0) : ((1728 : Nat) : El p r) * (((4 : Nat) : El p r) * (a * (a * a))) = mk a b * disc a b := by
  have h1 := mul_inv h
  show _ = (((1728 : Nat) : El p r) * ((((4 : Nat) : El p r) * (a * (a * a))) * (disc a b)⁻¹)) * disc a b
  grind
/-- the curve of a mark -/
def kk (m : El p r) : El p r := m / (((1728 : Nat) : El p r) - m)
def tl (m : El p r) : El p r × El p r := if m = 0 then (0, 1) else if m = ((1728 : Nat) : El p r) then (1, 0) else (((3 : Nat) : El p r) * kk m, ((2 : Nat) : El p r) * kk m)
theorem disc01 : disc (0 : El p r) 1 = ((27 : Nat) : El p r) := by unfold disc; grind
theorem disc10 : disc (1 : El p r) 0 = ((4 : Nat) : El p r) := by unfold disc; grind
theorem cast_of (n : Nat) : ((n : Nat) : El p r) = (OfNat.ofNat n : El p r) := rfl
theorem tl_ok (m : El p r) : disc (tl m).1 (tl m).2 ≠ 0 ∧ mk (tl m).1 (tl m).2 = m := by
  unfold tl
  by_cases h0 : m = 0
  · rw [if_pos h0]
    have h : disc (0 : El p r) 1 ≠ 0 := by rw [disc01]; exact c27_ne
    exact ⟨h, mk_of h (by rw [h0]; grind)⟩
  · rw [if_neg h0]
    by_cases h1 : m = ((1728 : Nat) : El p r)
    · rw [if_pos h1]
      have h : disc (1 : El p r) 0 ≠ 0 := by rw [disc10]; exact four_ne
      exact ⟨h, mk_of h (by rw [disc10, h1]; grind)⟩
    · rw [if_neg h1]
      have hd : ((1728 : Nat) : El p r) - m ≠ 0 := fun z => h1 (by grind)
      have hi := mul_inv hd
      have ek : kk m = m * (((1728 : Nat) : El p r) - m)⁻¹ := rfl
      generalize (((1728 : Nat) : El p r) - m)⁻¹ = t at hi ek
      have e1 : kk m * (((1728 : Nat) : El p r) - m) = m := by rw [ek]; grind
      have hk : kk m ≠ 0 := fun z => h0 (by rw [z] at e1; grind)
      have e2 : (kk m + 1) * (((1728 : Nat) : El p r) - m) = ((1728 : Nat) : El p r) := by grind
      have hk1 : kk m + 1 ≠ 0 := fun z => c1728_ne (p := p) (r := r) (by rw [z] at e2; grind)
      have e3 : disc (((3 : Nat) : El p r) * kk m) (((2 : Nat) : El p r) * kk m) = ((108 : Nat) : El p r) * (kk m * kk m) * (kk m + 1) := by
        unfold disc
        generalize kk m = k
        simp only [cast_of]
        grind
      have h : disc (((3 : Nat) : El p r) * kk m) (((2 : Nat) : El p r) * kk m) ≠ 0 := by
        rw [e3]
        exact mul_ne (mul_ne c108_ne (mul_ne hk hk)) hk1
      refine ⟨h, mk_of h ?_⟩
      rw [e3]
      have e4 : ((1728 : Nat) : El p r) * kk m = m * (kk m + 1) := by grind
      generalize kk m = k at *
      simp only [cast_of] at *
      grind
theorem tw_ok {u a b : El p r} (hu : u ≠ 0) (h : disc a b ≠ 0) : disc (u ^ 4 * a) (u ^ 6 * b) ≠ 0 ∧ mk (u ^ 4 * a) (u ^ 6 * b) = mk a b := by
  have e4 : u ^ 4 = u * u * (u * u) := by show 1 * u * u * u * u = _; grind
  have e6 : u ^ 6 = u * u * (u * u) * (u * u) := by show 1 * u * u * u * u * u * u = _; grind
  have h2 := mul_ne hu hu
  have h12 := mul_ne (mul_ne (mul_ne h2 h2) (mul_ne h2 h2)) (mul_ne h2 h2)
  have e : disc (u ^ 4 * a) (u ^ 6 * b) = (u * u * (u * u) * (u * u * (u * u)) * (u * u * (u * u))) * disc a b := by
    rw [e4, e6]
    unfold disc
    grind
  have hd : disc (u ^ 4 * a) (u ^ 6 * b) ≠ 0 := by rw [e]; exact mul_ne h12 h
  refine ⟨hd, mk_of hd ?_⟩
  rw [e, e4]
  have h3 := mk_eq h
  grind
/-! ### the rest of the program and of the law -/
theorem one_pr : D.tup [.int 1, .int 0] = prF (1 : El p r) := prF_one.symm
theorem pr1728 : D.tup [.int (1728 % (p : Int)), .int 0] = prF ((1728 : Nat) : El p r) := by
  have h : toF (p := p) 1728 = (((1728 : Nat) : El p r)).a := rfl
  unfold prF
  rw [val_of h]
  have e : (((1728 : Nat) : El p r)).b.val = 0 := by show ((0 : Fin p)).val = 0; simp
  rw [e] <;> rfl
theorem isi_tup (ds : List D) : dIsi "tuple" (.tup ds) = some (.bl true) := by rfl
theorem isi_ii (i : Int) : dIsi "int" (.int i) = some (.bl true) := by rfl
theorem isi_bi (i : Int) : dIsi "bool" (.int i) = some (.bl false) := by rfl
theorem e_ismember (x : El p r) : back (f__law_is_member [.sh (.int (p : Int)), .sh (prF x)]) = some (.bl true) := by
  have w : lcS (mSeq (rdv 1)) [2] (setN 2) tYesM (vAnd (una (dIsi "int") (rdv 2)) (vAnd (vNot (una (dIsi "bool") (rdv 2))) (vAnd (bin dLe (Pd.ret (.int 0)) (rdv 2)) (bin dLt (rdv 2) (rdv 0))))) [.sh (.int (p : Int)), .sh (prF x), .un] = some (([.int (x.a.val : Int), .int (x.b.val : Int)] : List D).map fun _ => D.bl true, [.sh (.int (p : Int)), .sh (prF x), .un]) := by
    refine lcS_map _ (by rfl) (by rfl) (by rfl) (by show 2 ≤ 1000000; decide) fun y hy => ?_
    have hy2 : ∃ a : Fin p, y = .int (a.val : Int) := by
      simp only [List.mem_cons, List.not_mem_nil, or_false] at hy
      rcases hy with hy | hy
      · exact ⟨_, hy⟩
      · exact ⟨_, hy⟩
    obtain ⟨a, rfl⟩ := hy2
    have h1 : decide ((0 : Int) ≤ (a.val : Int)) = true := decide_eq_true (by omega)
    have h2 : decide ((a.val : Int) < (p : Int)) = true := decide_eq_true (by have := a.isLt; omega)
    refine ⟨_, rfl, ?_, rfl⟩
    simp [Pd.fnS_ap, Pd.fin_ap, Pd.ret_ap, Pd.lft_ap, Pd.bnd_ap, Pd.rdv_ap, Pd.bin_ap, Pd.una_ap, Pd.lNil_ap, Pd.lCons_ap, Pd.mTup_ap, Pd.mLst_ap, Pd.asB_ap, Pd.asI_ap, Pd.asTru_ap, Pd.mAnd_ap, Pd.mOr_ap, Pd.mNot_ap, Pd.vAnd_ap, Pd.vOr_ap, Pd.vNot_ap, Pd.mIf_ap, Pd.chn_ap, Pd.sSeq_ap, Pd.sSkip_ap, Pd.sAsg_ap, Pd.setN_if, Pd.nfB_un, Pd.nfB_sh, Pd.nfB_ow, Pd.sAsgH_if, Pd.sRet_ap, Pd.sRetN_ap, Pd.sIf_ap, Pd.sRaise_ap, Pd.sDrop_ap, Pd.sBk_ap, Pd.sCt_ap, Pd.sAug_ap, Pd.sFldS_ap, Pd.hotI_ap, Pd.hotL_ap, Pd.ixh_ap, Pd.hotRead_ap, Pd.sApp_ap, Pd.lenh_ap, Pd.mCut_ap, Pd.mSeq_ap, Pd.mCall_ap, Pd.mCallN_ap, Pd.mMeth_ap, Pd.mMethN_ap, Pd.slf_ap, Pd.mMake_ap, Pd.back_sh, Pd.back_nw, Pd.backN_nw, Pd.backI_mk, Pd.add_ii, Pd.sub_ii, Pd.neg_i, Pd.int_i, Pd.int_b, Pd.lt_ii, Pd.le_ii, Pd.gt_ii, Pd.ge_ii, Pd.isN_non, Pd.isN_int, Pd.isN_tup, Pd.isN_lst, Pd.isN_obj, Pd.notN_non, Pd.notN_tup, Pd.notN_int, Pd.len_lst, Pd.len_tup, Pd.len_scr, Pd.tru_non, Pd.tru_bl, Pd.tru_int, Pd.tru_lst, Pd.tru_tup, Pd.eq_int, Pd.ne_int, List.replicate, List.length_cons, List.length_nil, List.append_nil, List.cons_append, List.nil_append, List.getElem?_cons_zero, List.getElem?_cons_succ, List.set_cons_zero, List.set_cons_succ, List.map_cons, List.map_nil, isi_ii, isi_bi, h1, h2]
  have ln : dLen (prF x) = some (.int 2) := rfl
  have it : dIsi "tuple" (prF x) = some (.bl true) := isi_tup _
  have dn : dNe (.int 2) (.int 2) = some (.bl false) := by rfl
  have da : dAll (.lst [.bl true, .bl true]) = some (.bl true) := by rfl
  simp [f__law_is_member, m__law_is_member, Pd.fnS_ap, Pd.fin_ap, Pd.ret_ap, Pd.lft_ap, Pd.bnd_ap, Pd.rdv_ap, Pd.bin_ap, Pd.una_ap, Pd.lNil_ap, Pd.lCons_ap, Pd.mTup_ap, Pd.mLst_ap, Pd.asB_ap, Pd.asI_ap, Pd.asTru_ap, Pd.mAnd_ap, Pd.mOr_ap, Pd.mNot_ap, Pd.vAnd_ap, Pd.vOr_ap, Pd.vNot_ap, Pd.mIf_ap, Pd.chn_ap, Pd.sSeq_ap, Pd.sSkip_ap, Pd.sAsg_ap, Pd.setN_if, Pd.nfB_un, Pd.nfB_sh, Pd.nfB_ow, Pd.sAsgH_if, Pd.sRet_ap, Pd.sRetN_ap, Pd.sIf_ap, Pd.sRaise_ap, Pd.sDrop_ap, Pd.sBk_ap, Pd.sCt_ap, Pd.sAug_ap, Pd.sFldS_ap, Pd.hotI_ap, Pd.hotL_ap, Pd.ixh_ap, Pd.hotRead_ap, Pd.sApp_ap, Pd.lenh_ap, Pd.mCut_ap, Pd.mSeq_ap, Pd.mCall_ap, Pd.mCallN_ap, Pd.mMeth_ap, Pd.mMethN_ap, Pd.slf_ap, Pd.mMake_ap, Pd.back_sh, Pd.back_nw, Pd.backN_nw, Pd.backI_mk, Pd.add_ii, Pd.sub_ii, Pd.neg_i, Pd.int_i, Pd.int_b, Pd.lt_ii, Pd.le_ii, Pd.gt_ii, Pd.ge_ii, Pd.isN_non, Pd.isN_int, Pd.isN_tup, Pd.isN_lst, Pd.isN_obj, Pd.notN_non, Pd.notN_tup, Pd.notN_int, Pd.len_lst, Pd.len_tup, Pd.len_scr, Pd.tru_non, Pd.tru_bl, Pd.tru_int, Pd.tru_lst, Pd.tru_tup, Pd.eq_int, Pd.ne_int, List.replicate, List.length_cons, List.length_nil, List.append_nil, List.cons_append, List.nil_append, List.getElem?_cons_zero, List.getElem?_cons_succ, List.set_cons_zero, List.set_cons_succ, List.map_cons, List.map_nil, it, ln, dn, w, da]
end
end Lk66
set_option Elab.async false
set_option linter.all false
set_option maxRecDepth 100000
set_option maxHeartbeats 4000000
namespace Lk66
open PySem L2 Pd Fq
section
variable {p r : Nat} [NeZero p] [g : GoodO p r]
/-! ### all members -/
def memL (p : Nat) : List (Int × Int) := (List.range p).flatMap fun (a : Nat) => (List.range p).map fun (b : Nat) => (Int.ofNat a, Int.ofNat b)
theorem rng_map (n : Nat) : rngD 0 n = (List.range n).map fun i => D.int ((i : Nat) : Int) := by
  unfold rngD
  apply List.map_congr_left
  intro i _
  rw [Int.zero_add]
theorem mem_pts (p : Nat) : (rngD 0 p).flatMap (fun d => (rngD 0 p).map fun y => D.tup [d, y]) = (memL p).map ptD := by
  unfold memL
  rw [rng_map, List.flatMap_map, List.map_flatMap]
  apply congrArg (fun f => List.flatMap f (List.range p))
  funext a
  rw [List.map_map, List.map_map]
  rfl
theorem sum_const (c : Nat) : ∀ n : Nat, ((List.range n).map fun _ => c).sum = n * c
  | 0 => by simp
  | n + 1 => by
    rw [List.range_succ, List.map_append, List.sum_append, sum_const c n, Nat.add_mul]
    simp
theorem mem_len (p : Nat) : (memL p).length = p * p := by
  unfold memL
  rw [List.length_flatMap]
  simp only [List.length_map, List.length_range]
  exact sum_const p p
theorem part_len (p i : Nat) : ((rngD 0 i).flatMap fun d => (rngD 0 p).map fun y => D.tup [d, y]).length = i * p := by
  rw [List.length_flatMap]
  simp only [List.length_map, rngD_len]
  rw [rng_map, List.map_map]
  exact sum_const p i
theorem rng_p {d : D} (h : d ∈ rngD 0 p) : ∃ i : Nat, i < p ∧ d = .int (i : Int) := by
  rw [rng_map] at h
  obtain ⟨i, hi, rfl⟩ := List.mem_map.mp h
  exact ⟨i, List.mem_range.mp hi, rfl⟩
theorem it_p (e : En) (s1 s2 : Sl) : mRng1 (una (dFld "Field" "p") (rdv 0)) [.sh (.obj "Field" (fldF p r)), s1, s2] = some (rngD 0 p, [.sh (.obj "Field" (fldF p r)), s1, s2]) := by
  have h97 := g.le97
  have q := mRng1_ok (f := una (dFld "Field" "p") (rdv 0)) (e := [.sh (.obj "Field" (fldF p r)), s1, s2]) (e1 := [.sh (.obj "Field" (fldF p r)), s1, s2]) (n := (p : Int)) (by simp [Pd.fnS_ap, Pd.fin_ap, Pd.ret_ap, Pd.lft_ap, Pd.bnd_ap, Pd.rdv_ap, Pd.bin_ap, Pd.una_ap, Pd.lNil_ap, Pd.lCons_ap, Pd.mTup_ap, Pd.mLst_ap, Pd.asB_ap, Pd.asI_ap, Pd.asTru_ap, Pd.mAnd_ap, Pd.mOr_ap, Pd.mNot_ap, Pd.vAnd_ap, Pd.vOr_ap, Pd.vNot_ap, Pd.mIf_ap, Pd.chn_ap, Pd.sSeq_ap, Pd.sSkip_ap, Pd.sAsg_ap, Pd.setN_if, Pd.nfB_un, Pd.nfB_sh, Pd.nfB_ow, Pd.sAsgH_if, Pd.sRet_ap, Pd.sRetN_ap, Pd.sIf_ap, Pd.sRaise_ap, Pd.sDrop_ap, Pd.sBk_ap, Pd.sCt_ap, Pd.sAug_ap, Pd.sFldS_ap, Pd.hotI_ap, Pd.hotL_ap, Pd.ixh_ap, Pd.hotRead_ap, Pd.sApp_ap, Pd.lenh_ap, Pd.mCut_ap, Pd.mSeq_ap, Pd.mCall_ap, Pd.mCallN_ap, Pd.mMeth_ap, Pd.mMethN_ap, Pd.slf_ap, Pd.mMake_ap, Pd.back_sh, Pd.back_nw, Pd.backN_nw, Pd.backI_mk, Pd.add_ii, Pd.sub_ii, Pd.neg_i, Pd.int_i, Pd.int_b, Pd.lt_ii, Pd.le_ii, Pd.gt_ii, Pd.ge_ii, Pd.isN_non, Pd.isN_int, Pd.isN_tup, Pd.isN_lst, Pd.isN_obj, Pd.notN_non, Pd.notN_tup, Pd.notN_int, Pd.len_lst, Pd.len_tup, Pd.len_scr, Pd.tru_non, Pd.tru_bl, Pd.tru_int, Pd.tru_lst, Pd.tru_tup, Pd.eq_int, Pd.ne_int, List.replicate, List.length_cons, List.length_nil, List.append_nil, List.cons_append, List.nil_append, List.getElem?_cons_zero, List.getElem?_cons_succ, List.set_cons_zero, List.set_cons_succ, List.map_cons, List.map_nil, fld_p]) (by omega) (by omega)
  rw [q] <;> rfl
theorem members_run : m_Field_members [.sh (.obj "Field" (fldF p r)), .un, .un] = some (.rt (.nw ((memL p).map ptD)) [.sh (.obj "Field" (fldF p r)), .un, .un]) := by
  have h97 := g.le97
  have h1 := lc2_pure (vs := [1, 2]) (vs1 := [2]) (set := setN 1) (it1 := mRng1 (una (dFld "Field" "p") (rdv 0))) (set1 := setN 2) (elt := mTup (lCons (rdv 1) (lCons (rdv 2) lNil))) (rngD 0 p) (fun d y => .tup [d, y]) [.sh (.obj "Field" (fldF p r)), .un, .un] (rngD 0 p) (fun d hd => by
    refine ⟨[.sh (.obj "Field" (fldF p r)), .sh d, .un], rfl, it_p [] _ _, rfl, fun y hy => ⟨[.sh (.obj "Field" (fldF p r)), .sh d, .sh y], rfl, rfl, rfl⟩⟩)
  rw [mem_pts] at h1
  have hl : ((memL p).map ptD).length ≤ 1000000 := by
    rw [List.length_map, mem_len]
    have := Nat.mul_le_mul h97 h97
    omega
  unfold m_Field_members sRetF lc2S
  rw [bnd_ap, it_p []]
  have w1 : wipeE [.sh (.obj "Field" (fldF p r)), .un, .un] [1, 2] = [.sh (.obj "Field" (fldF p r)), .un, .un] := rfl
  have w2 : mrg [1, 2] [.sh (.obj "Field" (fldF p r)), .un, .un] [.sh (.obj "Field" (fldF p r)), .un, .un] = [.sh (.obj "Field" (fldF p r)), .un, .un] := rfl
  simp only [w1, h1, if_pos hl, w2]
theorem e_membersN : backN (f_Field_members [.sh (.obj "Field" (fldF p r))]) = some ((memL p).map ptD) := by
  simp [f_Field_members, Pd.fnS_ap, Pd.fin_ap, Pd.ret_ap, Pd.lft_ap, Pd.bnd_ap, Pd.rdv_ap, Pd.bin_ap, Pd.una_ap, Pd.lNil_ap, Pd.lCons_ap, Pd.mTup_ap, Pd.mLst_ap, Pd.asB_ap, Pd.asI_ap, Pd.asTru_ap, Pd.mAnd_ap, Pd.mOr_ap, Pd.mNot_ap, Pd.vAnd_ap, Pd.vOr_ap, Pd.vNot_ap, Pd.mIf_ap, Pd.chn_ap, Pd.sSeq_ap, Pd.sSkip_ap, Pd.sAsg_ap, Pd.setN_if, Pd.nfB_un, Pd.nfB_sh, Pd.nfB_ow, Pd.sAsgH_if, Pd.sRet_ap, Pd.sRetN_ap, Pd.sIf_ap, Pd.sRaise_ap, Pd.sDrop_ap, Pd.sBk_ap, Pd.sCt_ap, Pd.sAug_ap, Pd.sFldS_ap, Pd.hotI_ap, Pd.hotL_ap, Pd.ixh_ap, Pd.hotRead_ap, Pd.sApp_ap, Pd.lenh_ap, Pd.mCut_ap, Pd.mSeq_ap, Pd.mCall_ap, Pd.mCallN_ap, Pd.mMeth_ap, Pd.mMethN_ap, Pd.slf_ap, Pd.mMake_ap, Pd.back_sh, Pd.back_nw, Pd.backN_nw, Pd.backI_mk, Pd.add_ii, Pd.sub_ii, Pd.neg_i, Pd.int_i, Pd.int_b, Pd.lt_ii, Pd.le_ii, Pd.gt_ii, Pd.ge_ii, Pd.isN_non, Pd.isN_int, Pd.isN_tup, Pd.isN_lst, Pd.isN_obj, Pd.notN_non, Pd.notN_tup, Pd.notN_int, Pd.len_lst, Pd.len_tup, Pd.len_scr, Pd.tru_non, Pd.tru_bl, Pd.tru_int, Pd.tru_lst, Pd.tru_tup, Pd.eq_int, Pd.ne_int, List.replicate, List.length_cons, List.length_nil, List.append_nil, List.cons_append, List.nil_append, List.getElem?_cons_zero, List.getElem?_cons_succ, List.set_cons_zero, List.set_cons_succ, List.map_cons, List.map_nil, members_run]
theorem e_members : back (f_Field_members [.sh (.obj "Field" (fldF p r))]) = some (.lst ((memL p).map ptD)) := by
  simp [f_Field_members, Pd.fnS_ap, Pd.fin_ap, Pd.ret_ap, Pd.lft_ap, Pd.bnd_ap, Pd.rdv_ap, Pd.bin_ap, Pd.una_ap, Pd.lNil_ap, Pd.lCons_ap, Pd.mTup_ap, Pd.mLst_ap, Pd.asB_ap, Pd.asI_ap, Pd.asTru_ap, Pd.mAnd_ap, Pd.mOr_ap, Pd.mNot_ap, Pd.vAnd_ap, Pd.vOr_ap, Pd.vNot_ap, Pd.mIf_ap, Pd.chn_ap, Pd.sSeq_ap, Pd.sSkip_ap, Pd.sAsg_ap, Pd.setN_if, Pd.nfB_un, Pd.nfB_sh, Pd.nfB_ow, Pd.sAsgH_if, Pd.sRet_ap, Pd.sRetN_ap, Pd.sIf_ap, Pd.sRaise_ap, Pd.sDrop_ap, Pd.sBk_ap, Pd.sCt_ap, Pd.sAug_ap, Pd.sFldS_ap, Pd.hotI_ap, Pd.hotL_ap, Pd.ixh_ap, Pd.hotRead_ap, Pd.sApp_ap, Pd.lenh_ap, Pd.mCut_ap, Pd.mSeq_ap, Pd.mCall_ap, Pd.mCallN_ap, Pd.mMeth_ap, Pd.mMethN_ap, Pd.slf_ap, Pd.mMake_ap, Pd.back_sh, Pd.back_nw, Pd.backN_nw, Pd.backI_mk, Pd.add_ii, Pd.sub_ii, Pd.neg_i, Pd.int_i, Pd.int_b, Pd.lt_ii, Pd.le_ii, Pd.gt_ii, Pd.ge_ii, Pd.isN_non, Pd.isN_int, Pd.isN_tup, Pd.isN_lst, Pd.isN_obj, Pd.notN_non, Pd.notN_tup, Pd.notN_int, Pd.len_lst, Pd.len_tup, Pd.len_scr, Pd.tru_non, Pd.tru_bl, Pd.tru_int, Pd.tru_lst, Pd.tru_tup, Pd.eq_int, Pd.ne_int, List.replicate, List.length_cons, List.length_nil, List.append_nil, List.cons_append, List.nil_append, List.getElem?_cons_zero, List.getElem?_cons_succ, List.set_cons_zero, List.set_cons_succ, List.map_cons, List.map_nil, members_run]
/-- the law's list -/
def lmE (p : Nat) (L : List D) (s : Sl) : En := [.sh (.int (p : Int)), .sh (.lst L), s, .un]
def lmR (p : Nat) (i : Nat) (e : En) : Prop := ∃ s, nfB s = true ∧ e = lmE p ((rngD 0 i).flatMap fun d => (rngD 0 p).map fun y => D.tup [d, y]) s
theorem lm_b1 (h97 : p ≤ 97) {i : Nat} {e : En} (hi : i < p) (h : lmR p i e) : ∃ e1 e2, setN 2 (.int ((i : Nat) : Int)) e = some e1 ∧ (b1__law_members e1 = some (.nx e2) ∨ b1__law_members e1 = some (.ct e2)) ∧ lmR p (i + 1) e2 := by
  obtain ⟨s, hs, rfl⟩ := h
  have hlen := part_len p i
  generalize hL : ((rngD 0 i).flatMap fun d => (rngD 0 p).map fun y => D.tup [d, y]) = L
  have c : lcS (mRng1 (rdv 0)) [3] (setN 3) tYesM (mTup (lCons (rdv 2) (lCons (rdv 3) lNil))) (lmE p L (.sh (.int (i : Int)))) = some ((rngD 0 p).map fun y => D.tup [.int (i : Int), y], lmE p L (.sh (.int (i : Int)))) :=
    lcS_map (fun y => D.tup [.int (i : Int), y]) ((mRng1_ok (n := (p : Int)) (by rfl) (by omega) (by omega)).trans (by rfl)) rfl rfl (by rw [rngD_len]; omega) fun d hd => ⟨_, rfl, rfl, rfl⟩
  refine ⟨lmE p L (.sh (.int (i : Int))), lmE p (L ++ (rngD 0 p).map fun y => D.tup [.int (i : Int), y]) (.sh (.int (i : Int))), ?_, .inl ?_, .sh (.int (i : Int)), rfl, ?_⟩
  · simp [lmE, Pd.fnS_ap, Pd.fin_ap, Pd.ret_ap, Pd.lft_ap, Pd.bnd_ap, Pd.rdv_ap, Pd.bin_ap, Pd.una_ap, Pd.lNil_ap, Pd.lCons_ap, Pd.mTup_ap, Pd.mLst_ap, Pd.asB_ap, Pd.asI_ap, Pd.asTru_ap, Pd.mAnd_ap, Pd.mOr_ap, Pd.mNot_ap, Pd.vAnd_ap, Pd.vOr_ap, Pd.vNot_ap, Pd.mIf_ap, Pd.chn_ap, Pd.sSeq_ap, Pd.sSkip_ap, Pd.sAsg_ap, Pd.setN_if, Pd.nfB_un, Pd.nfB_sh, Pd.nfB_ow, Pd.sAsgH_if, Pd.sRet_ap, Pd.sRetN_ap, Pd.sIf_ap, Pd.sRaise_ap, Pd.sDrop_ap, Pd.sBk_ap, Pd.sCt_ap, Pd.sAug_ap, Pd.sFldS_ap, Pd.hotI_ap, Pd.hotL_ap, Pd.ixh_ap, Pd.hotRead_ap, Pd.sApp_ap, Pd.lenh_ap, Pd.mCut_ap, Pd.mSeq_ap, Pd.mCall_ap, Pd.mCallN_ap, Pd.mMeth_ap, Pd.mMethN_ap, Pd.slf_ap, Pd.mMake_ap, Pd.back_sh, Pd.back_nw, Pd.backN_nw, Pd.backI_mk, Pd.add_ii, Pd.sub_ii, Pd.neg_i, Pd.int_i, Pd.int_b, Pd.lt_ii, Pd.le_ii, Pd.gt_ii, Pd.ge_ii, Pd.isN_non, Pd.isN_int, Pd.isN_tup, Pd.isN_lst, Pd.isN_obj, Pd.notN_non, Pd.notN_tup, Pd.notN_int, Pd.len_lst, Pd.len_tup, Pd.len_scr, Pd.tru_non, Pd.tru_bl, Pd.tru_int, Pd.tru_lst, Pd.tru_tup, Pd.eq_int, Pd.ne_int, List.replicate, List.length_cons, List.length_nil, List.append_nil, List.cons_append, List.nil_append, List.getElem?_cons_zero, List.getElem?_cons_succ, List.set_cons_zero, List.set_cons_succ, List.map_cons, List.map_nil, hs]
  · unfold b1__law_members
    rw [sAsg_ap, mLst_ap]
    have c2 : mCatD (rdv 1) (mLst (lcS (mRng1 (rdv 0)) [3] (setN 3) tYesM (mTup (lCons (rdv 2) (lCons (rdv 3) lNil))))) (lmE p L (.sh (.int (i : Int)))) = some (L ++ (rngD 0 p).map fun y => D.tup [.int (i : Int), y], lmE p L (.sh (.int (i : Int)))) := by
      have r1 : rdv 1 (lmE p L (.sh (.int (i : Int)))) = some (.lst L, lmE p L (.sh (.int (i : Int)))) := rfl
      unfold mCatD
      rw [hL] at hlen
      have hsz : L.length + ((rngD 0 p).map fun y => D.tup [.int (i : Int), y]).length ≤ 1000000 := by
        rw [hlen, List.length_map, rngD_len]
        have := Nat.mul_le_mul (Nat.le_of_lt (Nat.lt_of_lt_of_le hi h97)) h97
        omega
      simp only [bnd_ap, mLst_ap, r1, c, if_pos hsz]
    rw [c2]
    rfl
  · have e1 : rngD 0 (i + 1) = rngD 0 i ++ [.int (i : Int)] := by
      rw [rng_map, rng_map, List.range_succ, List.map_append] <;> rfl
    rw [e1, List.flatMap_append, hL]
    simp
theorem e_lmembers (h97 : p ≤ 97) : back (f__law_members [.sh (.int (p : Int))]) = some (.lst ((memL p).map ptD)) := by
  obtain ⟨e1, z1, s, hs, rfl⟩ := for_ind (set := setN 2) (m := b1__law_members) (lmR p) (rngD 0 p) (lmE p [] .un) 0 ⟨.un, rfl, rfl⟩ (fun i d e hd hr => by
    obtain ⟨hi, rfl⟩ := rngD_get hd
    rw [Nat.zero_add] at hr ⊢
    rw [Int.zero_add]
    exact lm_b1 h97 hi hr)
  rw [rngD_len, Nat.zero_add, mem_pts] at z1
  have f1 : sFor (mRng1 (rdv 0)) (setN 2) b1__law_members (lmE p [] .un) = sForL (setN 2) b1__law_members (rngD 0 p) (lmE p [] .un) :=
    sFor_ok ((mRng1_ok (n := (p : Int)) (by rfl) (by omega) (by omega)).trans (by rfl))
  have f2 := f1.trans z1
  simp only [lmE] at f2
  simp [f__law_members, m__law_members, Pd.fnS_ap, Pd.fin_ap, Pd.ret_ap, Pd.lft_ap, Pd.bnd_ap, Pd.rdv_ap, Pd.bin_ap, Pd.una_ap, Pd.lNil_ap, Pd.lCons_ap, Pd.mTup_ap, Pd.mLst_ap, Pd.asB_ap, Pd.asI_ap, Pd.asTru_ap, Pd.mAnd_ap, Pd.mOr_ap, Pd.mNot_ap, Pd.vAnd_ap, Pd.vOr_ap, Pd.vNot_ap, Pd.mIf_ap, Pd.chn_ap, Pd.sSeq_ap, Pd.sSkip_ap, Pd.sAsg_ap, Pd.setN_if, Pd.nfB_un, Pd.nfB_sh, Pd.nfB_ow, Pd.sAsgH_if, Pd.sRet_ap, Pd.sRetN_ap, Pd.sIf_ap, Pd.sRaise_ap, Pd.sDrop_ap, Pd.sBk_ap, Pd.sCt_ap, Pd.sAug_ap, Pd.sFldS_ap, Pd.hotI_ap, Pd.hotL_ap, Pd.ixh_ap, Pd.hotRead_ap, Pd.sApp_ap, Pd.lenh_ap, Pd.mCut_ap, Pd.mSeq_ap, Pd.mCall_ap, Pd.mCallN_ap, Pd.mMeth_ap, Pd.mMethN_ap, Pd.slf_ap, Pd.mMake_ap, Pd.back_sh, Pd.back_nw, Pd.backN_nw, Pd.backI_mk, Pd.add_ii, Pd.sub_ii, Pd.neg_i, Pd.int_i, Pd.int_b, Pd.lt_ii, Pd.le_ii, Pd.gt_ii, Pd.ge_ii, Pd.isN_non, Pd.isN_int, Pd.isN_tup, Pd.isN_lst, Pd.isN_obj, Pd.notN_non, Pd.notN_tup, Pd.notN_int, Pd.len_lst, Pd.len_tup, Pd.len_scr, Pd.tru_non, Pd.tru_bl, Pd.tru_int, Pd.tru_lst, Pd.tru_tup, Pd.eq_int, Pd.ne_int, List.replicate, List.length_cons, List.length_nil, List.append_nil, List.cons_append, List.nil_append, List.getElem?_cons_zero, List.getElem?_cons_succ, List.set_cons_zero, List.set_cons_succ, List.map_cons, List.map_nil, f2]
/-! ### powers -/
theorem e_same (x y : El p r) : back (f__law_same [.sh (.int (p : Int)), .sh (prF x), .sh (prF y)]) = some (.bl (decide (x = y))) := by
  simp [f__law_same, m__law_same, Pd.fnS_ap, Pd.fin_ap, Pd.ret_ap, Pd.lft_ap, Pd.bnd_ap, Pd.rdv_ap, Pd.bin_ap, Pd.una_ap, Pd.lNil_ap, Pd.lCons_ap, Pd.mTup_ap, Pd.mLst_ap, Pd.asB_ap, Pd.asI_ap, Pd.asTru_ap, Pd.mAnd_ap, Pd.mOr_ap, Pd.mNot_ap, Pd.vAnd_ap, Pd.vOr_ap, Pd.vNot_ap, Pd.mIf_ap, Pd.chn_ap, Pd.sSeq_ap, Pd.sSkip_ap, Pd.sAsg_ap, Pd.setN_if, Pd.nfB_un, Pd.nfB_sh, Pd.nfB_ow, Pd.sAsgH_if, Pd.sRet_ap, Pd.sRetN_ap, Pd.sIf_ap, Pd.sRaise_ap, Pd.sDrop_ap, Pd.sBk_ap, Pd.sCt_ap, Pd.sAug_ap, Pd.sFldS_ap, Pd.hotI_ap, Pd.hotL_ap, Pd.ixh_ap, Pd.hotRead_ap, Pd.sApp_ap, Pd.lenh_ap, Pd.mCut_ap, Pd.mSeq_ap, Pd.mCall_ap, Pd.mCallN_ap, Pd.mMeth_ap, Pd.mMethN_ap, Pd.slf_ap, Pd.mMake_ap, Pd.back_sh, Pd.back_nw, Pd.backN_nw, Pd.backI_mk, Pd.add_ii, Pd.sub_ii, Pd.neg_i, Pd.int_i, Pd.int_b, Pd.lt_ii, Pd.le_ii, Pd.gt_ii, Pd.ge_ii, Pd.isN_non, Pd.isN_int, Pd.isN_tup, Pd.isN_lst, Pd.isN_obj, Pd.notN_non, Pd.notN_tup, Pd.notN_int, Pd.len_lst, Pd.len_tup, Pd.len_scr, Pd.tru_non, Pd.tru_bl, Pd.tru_int, Pd.tru_lst, Pd.tru_tup, Pd.eq_int, Pd.ne_int, List.replicate, List.length_cons, List.length_nil, List.append_nil, List.cons_append, List.nil_append, List.getElem?_cons_zero, List.getElem?_cons_succ, List.set_cons_zero, List.set_cons_succ, List.map_cons, List.map_nil, e_ismember, eq_pr]
theorem e_turned (x : El p r) : back (f_Field_turned [.sh (.obj "Field" (fldF p r)), .sh (prF x)]) = some (prF (cj x)) := by
  simp [f_Field_turned, m_Field_turned, Pd.fnS_ap, Pd.fin_ap, Pd.ret_ap, Pd.lft_ap, Pd.bnd_ap, Pd.rdv_ap, Pd.bin_ap, Pd.una_ap, Pd.lNil_ap, Pd.lCons_ap, Pd.mTup_ap, Pd.mLst_ap, Pd.asB_ap, Pd.asI_ap, Pd.asTru_ap, Pd.mAnd_ap, Pd.mOr_ap, Pd.mNot_ap, Pd.vAnd_ap, Pd.vOr_ap, Pd.vNot_ap, Pd.mIf_ap, Pd.chn_ap, Pd.sSeq_ap, Pd.sSkip_ap, Pd.sAsg_ap, Pd.setN_if, Pd.nfB_un, Pd.nfB_sh, Pd.nfB_ow, Pd.sAsgH_if, Pd.sRet_ap, Pd.sRetN_ap, Pd.sIf_ap, Pd.sRaise_ap, Pd.sDrop_ap, Pd.sBk_ap, Pd.sCt_ap, Pd.sAug_ap, Pd.sFldS_ap, Pd.hotI_ap, Pd.hotL_ap, Pd.ixh_ap, Pd.hotRead_ap, Pd.sApp_ap, Pd.lenh_ap, Pd.mCut_ap, Pd.mSeq_ap, Pd.mCall_ap, Pd.mCallN_ap, Pd.mMeth_ap, Pd.mMethN_ap, Pd.slf_ap, Pd.mMake_ap, Pd.back_sh, Pd.back_nw, Pd.backN_nw, Pd.backI_mk, Pd.add_ii, Pd.sub_ii, Pd.neg_i, Pd.int_i, Pd.int_b, Pd.lt_ii, Pd.le_ii, Pd.gt_ii, Pd.ge_ii, Pd.isN_non, Pd.isN_int, Pd.isN_tup, Pd.isN_lst, Pd.isN_obj, Pd.notN_non, Pd.notN_tup, Pd.notN_int, Pd.len_lst, Pd.len_tup, Pd.len_scr, Pd.tru_non, Pd.tru_bl, Pd.tru_int, Pd.tru_lst, Pd.tru_tup, Pd.eq_int, Pd.ne_int, List.replicate, List.length_cons, List.length_nil, List.append_nil, List.cons_append, List.nil_append, List.getElem?_cons_zero, List.getElem?_cons_succ, List.set_cons_zero, List.set_cons_succ, List.map_cons, List.map_nil, ix0, ix1, fld_p, mod_p]
  have h : toF (p := p) (0 - (x.b.val : Int)) = (cj x).b := by rw [toF_sub, toF_zero, toF_self] <;> rfl
  have h2 := val_of h
  rw [Int.zero_sub] at h2
  unfold prF
  rw [h2] <;> rfl
def rpR (x : El p r) (n : Nat) (i : Nat) (e : En) : Prop := ∃ s, nfB s = true ∧ e = [.sh (.int (p : Int)), .sh (prF x), .sh (.int (n : Int)), .sh (prF (x ^ i)), s]
theorem e_repeated (x : El p r) (n : Nat) (hn : n < 1000) : back (f__law_repeated [.sh (.int (p : Int)), .sh (prF x), .sh (.int (n : Int))]) = some (prF (x ^ n)) := by
  obtain ⟨e1, z1, s, hs, rfl⟩ := for_ind (set := setN 4) (m := b1__law_repeated) (rpR x n) (rngD 0 n) [.sh (.int (p : Int)), .sh (prF x), .sh (.int (n : Int)), .sh (prF (1 : El p r)), .un] 0 ⟨.un, rfl, rfl⟩ (fun i d e hd hr => by
    obtain ⟨s, hs, rfl⟩ := hr
    refine ⟨[.sh (.int (p : Int)), .sh (prF x), .sh (.int (n : Int)), .sh (prF (x ^ (0 + i))), .sh d], [.sh (.int (p : Int)), .sh (prF x), .sh (.int (n : Int)), .sh (prF (x ^ (0 + i + 1))), .sh d], by simp [Pd.fnS_ap, Pd.fin_ap, Pd.ret_ap, Pd.lft_ap, Pd.bnd_ap, Pd.rdv_ap, Pd.bin_ap, Pd.una_ap, Pd.lNil_ap, Pd.lCons_ap, Pd.mTup_ap, Pd.mLst_ap, Pd.asB_ap, Pd.asI_ap, Pd.asTru_ap, Pd.mAnd_ap, Pd.mOr_ap, Pd.mNot_ap, Pd.vAnd_ap, Pd.vOr_ap, Pd.vNot_ap, Pd.mIf_ap, Pd.chn_ap, Pd.sSeq_ap, Pd.sSkip_ap, Pd.sAsg_ap, Pd.setN_if, Pd.nfB_un, Pd.nfB_sh, Pd.nfB_ow, Pd.sAsgH_if, Pd.sRet_ap, Pd.sRetN_ap, Pd.sIf_ap, Pd.sRaise_ap, Pd.sDrop_ap, Pd.sBk_ap, Pd.sCt_ap, Pd.sAug_ap, Pd.sFldS_ap, Pd.hotI_ap, Pd.hotL_ap, Pd.ixh_ap, Pd.hotRead_ap, Pd.sApp_ap, Pd.lenh_ap, Pd.mCut_ap, Pd.mSeq_ap, Pd.mCall_ap, Pd.mCallN_ap, Pd.mMeth_ap, Pd.mMethN_ap, Pd.slf_ap, Pd.mMake_ap, Pd.back_sh, Pd.back_nw, Pd.backN_nw, Pd.backI_mk, Pd.add_ii, Pd.sub_ii, Pd.neg_i, Pd.int_i, Pd.int_b, Pd.lt_ii, Pd.le_ii, Pd.gt_ii, Pd.ge_ii, Pd.isN_non, Pd.isN_int, Pd.isN_tup, Pd.isN_lst, Pd.isN_obj, Pd.notN_non, Pd.notN_tup, Pd.notN_int, Pd.len_lst, Pd.len_tup, Pd.len_scr, Pd.tru_non, Pd.tru_bl, Pd.tru_int, Pd.tru_lst, Pd.tru_tup, Pd.eq_int, Pd.ne_int, List.replicate, List.length_cons, List.length_nil, List.append_nil, List.cons_append, List.nil_append, List.getElem?_cons_zero, List.getElem?_cons_succ, List.set_cons_zero, List.set_cons_succ, List.map_cons, List.map_nil, hs], .inl ?_, .sh d, rfl, rfl⟩
    rw [npw_succ]
    simp [b1__law_repeated, Pd.fnS_ap, Pd.fin_ap, Pd.ret_ap, Pd.lft_ap, Pd.bnd_ap, Pd.rdv_ap, Pd.bin_ap, Pd.una_ap, Pd.lNil_ap, Pd.lCons_ap, Pd.mTup_ap, Pd.mLst_ap, Pd.asB_ap, Pd.asI_ap, Pd.asTru_ap, Pd.mAnd_ap, Pd.mOr_ap, Pd.mNot_ap, Pd.vAnd_ap, Pd.vOr_ap, Pd.vNot_ap, Pd.mIf_ap, Pd.chn_ap, Pd.sSeq_ap, Pd.sSkip_ap, Pd.sAsg_ap, Pd.setN_if, Pd.nfB_un, Pd.nfB_sh, Pd.nfB_ow, Pd.sAsgH_if, Pd.sRet_ap, Pd.sRetN_ap, Pd.sIf_ap, Pd.sRaise_ap, Pd.sDrop_ap, Pd.sBk_ap, Pd.sCt_ap, Pd.sAug_ap, Pd.sFldS_ap, Pd.hotI_ap, Pd.hotL_ap, Pd.ixh_ap, Pd.hotRead_ap, Pd.sApp_ap, Pd.lenh_ap, Pd.mCut_ap, Pd.mSeq_ap, Pd.mCall_ap, Pd.mCallN_ap, Pd.mMeth_ap, Pd.mMethN_ap, Pd.slf_ap, Pd.mMake_ap, Pd.back_sh, Pd.back_nw, Pd.backN_nw, Pd.backI_mk, Pd.add_ii, Pd.sub_ii, Pd.neg_i, Pd.int_i, Pd.int_b, Pd.lt_ii, Pd.le_ii, Pd.gt_ii, Pd.ge_ii, Pd.isN_non, Pd.isN_int, Pd.isN_tup, Pd.isN_lst, Pd.isN_obj, Pd.notN_non, Pd.notN_tup, Pd.notN_int, Pd.len_lst, Pd.len_tup, Pd.len_scr, Pd.tru_non, Pd.tru_bl, Pd.tru_int, Pd.tru_lst, Pd.tru_tup, Pd.eq_int, Pd.ne_int, List.replicate, List.length_cons, List.length_nil, List.append_nil, List.cons_append, List.nil_append, List.getElem?_cons_zero, List.getElem?_cons_succ, List.set_cons_zero, List.set_cons_succ, List.map_cons, List.map_nil, e_ltimes])
  rw [rngD_len, Nat.zero_add] at z1
  have f1 : sFor (mRng1 (rdv 2)) (setN 4) b1__law_repeated [.sh (.int (p : Int)), .sh (prF x), .sh (.int (n : Int)), .sh (prF (1 : El p r)), .un] = sForL (setN 4) b1__law_repeated (rngD 0 n) [.sh (.int (p : Int)), .sh (prF x), .sh (.int (n : Int)), .sh (prF (1 : El p r)), .un] :=
    sFor_ok ((mRng1_ok (n := (n : Int)) (by rfl) (by omega) (by omega)).trans (by rfl))
  have f2 := f1.trans z1
  rw [prF_one (r := r)] at f2
  simp [f__law_repeated, m__law_repeated, Pd.fnS_ap, Pd.fin_ap, Pd.ret_ap, Pd.lft_ap, Pd.bnd_ap, Pd.rdv_ap, Pd.bin_ap, Pd.una_ap, Pd.lNil_ap, Pd.lCons_ap, Pd.mTup_ap, Pd.mLst_ap, Pd.asB_ap, Pd.asI_ap, Pd.asTru_ap, Pd.mAnd_ap, Pd.mOr_ap, Pd.mNot_ap, Pd.vAnd_ap, Pd.vOr_ap, Pd.vNot_ap, Pd.mIf_ap, Pd.chn_ap, Pd.sSeq_ap, Pd.sSkip_ap, Pd.sAsg_ap, Pd.setN_if, Pd.nfB_un, Pd.nfB_sh, Pd.nfB_ow, Pd.sAsgH_if, Pd.sRet_ap, Pd.sRetN_ap, Pd.sIf_ap, Pd.sRaise_ap, Pd.sDrop_ap, Pd.sBk_ap, Pd.sCt_ap, Pd.sAug_ap, Pd.sFldS_ap, Pd.hotI_ap, Pd.hotL_ap, Pd.ixh_ap, Pd.hotRead_ap, Pd.sApp_ap, Pd.lenh_ap, Pd.mCut_ap, Pd.mSeq_ap, Pd.mCall_ap, Pd.mCallN_ap, Pd.mMeth_ap, Pd.mMethN_ap, Pd.slf_ap, Pd.mMake_ap, Pd.back_sh, Pd.back_nw, Pd.backN_nw, Pd.backI_mk, Pd.add_ii, Pd.sub_ii, Pd.neg_i, Pd.int_i, Pd.int_b, Pd.lt_ii, Pd.le_ii, Pd.gt_ii, Pd.ge_ii, Pd.isN_non, Pd.isN_int, Pd.isN_tup, Pd.isN_lst, Pd.isN_obj, Pd.notN_non, Pd.notN_tup, Pd.notN_int, Pd.len_lst, Pd.len_tup, Pd.len_scr, Pd.tru_non, Pd.tru_bl, Pd.tru_int, Pd.tru_lst, Pd.tru_tup, Pd.eq_int, Pd.ne_int, List.replicate, List.length_cons, List.length_nil, List.append_nil, List.cons_append, List.nil_append, List.getElem?_cons_zero, List.getElem?_cons_succ, List.set_cons_zero, List.set_cons_succ, List.map_cons, List.map_nil, f2]
def pwE (f a : El p r) (n : Nat) : En := [.sh (.obj "Field" (fldF p r)), .sh (prF a), .sh (.int (n : Int)), .sh (prF f)]
theorem pw_b1 (f a : El p r) (n : Nat) : b1_Field_power (pwE f a n) = some (.nx (pwE (if n % 2 = 1 then f * a else f) (a * a) (n / 2))) := by
  have m2 : dMod (.int (n : Int)) (.int 2) = some (.int ((n % 2 : Nat) : Int)) := by rw [dmod_ok (by decide)]; congr 2
  have d2 : dFdivS (.int (n : Int)) (.int 2) = some (.int ((n / 2 : Nat) : Int)) := by
    have h : (0 : Int) < 2 ∧ (2 : Int) < 1073741824 := by decide
    have e : dFdivS (.int (n : Int)) (.int 2) = some (.int ((n : Int) / 2)) := by
      unfold dFdivS
      exact if_pos h
    rw [e]
    congr 2
  by_cases q : n % 2 = 1
  · rw [if_pos q]
    simp [b1_Field_power, pwE, Pd.fnS_ap, Pd.fin_ap, Pd.ret_ap, Pd.lft_ap, Pd.bnd_ap, Pd.rdv_ap, Pd.bin_ap, Pd.una_ap, Pd.lNil_ap, Pd.lCons_ap, Pd.mTup_ap, Pd.mLst_ap, Pd.asB_ap, Pd.asI_ap, Pd.asTru_ap, Pd.mAnd_ap, Pd.mOr_ap, Pd.mNot_ap, Pd.vAnd_ap, Pd.vOr_ap, Pd.vNot_ap, Pd.mIf_ap, Pd.chn_ap, Pd.sSeq_ap, Pd.sSkip_ap, Pd.sAsg_ap, Pd.setN_if, Pd.nfB_un, Pd.nfB_sh, Pd.nfB_ow, Pd.sAsgH_if, Pd.sRet_ap, Pd.sRetN_ap, Pd.sIf_ap, Pd.sRaise_ap, Pd.sDrop_ap, Pd.sBk_ap, Pd.sCt_ap, Pd.sAug_ap, Pd.sFldS_ap, Pd.hotI_ap, Pd.hotL_ap, Pd.ixh_ap, Pd.hotRead_ap, Pd.sApp_ap, Pd.lenh_ap, Pd.mCut_ap, Pd.mSeq_ap, Pd.mCall_ap, Pd.mCallN_ap, Pd.mMeth_ap, Pd.mMethN_ap, Pd.slf_ap, Pd.mMake_ap, Pd.back_sh, Pd.back_nw, Pd.backN_nw, Pd.backI_mk, Pd.add_ii, Pd.sub_ii, Pd.neg_i, Pd.int_i, Pd.int_b, Pd.lt_ii, Pd.le_ii, Pd.gt_ii, Pd.ge_ii, Pd.isN_non, Pd.isN_int, Pd.isN_tup, Pd.isN_lst, Pd.isN_obj, Pd.notN_non, Pd.notN_tup, Pd.notN_int, Pd.len_lst, Pd.len_tup, Pd.len_scr, Pd.tru_non, Pd.tru_bl, Pd.tru_int, Pd.tru_lst, Pd.tru_tup, Pd.eq_int, Pd.ne_int, List.replicate, List.length_cons, List.length_nil, List.append_nil, List.cons_append, List.nil_append, List.getElem?_cons_zero, List.getElem?_cons_succ, List.set_cons_zero, List.set_cons_succ, List.map_cons, List.map_nil, m2, d2, q, no_times, e_times g.le97]
  · have q' : n % 2 = 0 := by omega
    rw [if_neg q]
    simp [b1_Field_power, pwE, Pd.fnS_ap, Pd.fin_ap, Pd.ret_ap, Pd.lft_ap, Pd.bnd_ap, Pd.rdv_ap, Pd.bin_ap, Pd.una_ap, Pd.lNil_ap, Pd.lCons_ap, Pd.mTup_ap, Pd.mLst_ap, Pd.asB_ap, Pd.asI_ap, Pd.asTru_ap, Pd.mAnd_ap, Pd.mOr_ap, Pd.mNot_ap, Pd.vAnd_ap, Pd.vOr_ap, Pd.vNot_ap, Pd.mIf_ap, Pd.chn_ap, Pd.sSeq_ap, Pd.sSkip_ap, Pd.sAsg_ap, Pd.setN_if, Pd.nfB_un, Pd.nfB_sh, Pd.nfB_ow, Pd.sAsgH_if, Pd.sRet_ap, Pd.sRetN_ap, Pd.sIf_ap, Pd.sRaise_ap, Pd.sDrop_ap, Pd.sBk_ap, Pd.sCt_ap, Pd.sAug_ap, Pd.sFldS_ap, Pd.hotI_ap, Pd.hotL_ap, Pd.ixh_ap, Pd.hotRead_ap, Pd.sApp_ap, Pd.lenh_ap, Pd.mCut_ap, Pd.mSeq_ap, Pd.mCall_ap, Pd.mCallN_ap, Pd.mMeth_ap, Pd.mMethN_ap, Pd.slf_ap, Pd.mMake_ap, Pd.back_sh, Pd.back_nw, Pd.backN_nw, Pd.backI_mk, Pd.add_ii, Pd.sub_ii, Pd.neg_i, Pd.int_i, Pd.int_b, Pd.lt_ii, Pd.le_ii, Pd.gt_ii, Pd.ge_ii, Pd.isN_non, Pd.isN_int, Pd.isN_tup, Pd.isN_lst, Pd.isN_obj, Pd.notN_non, Pd.notN_tup, Pd.notN_int, Pd.len_lst, Pd.len_tup, Pd.len_scr, Pd.tru_non, Pd.tru_bl, Pd.tru_int, Pd.tru_lst, Pd.tru_tup, Pd.eq_int, Pd.ne_int, List.replicate, List.length_cons, List.length_nil, List.append_nil, List.cons_append, List.nil_append, List.getElem?_cons_zero, List.getElem?_cons_succ, List.set_cons_zero, List.set_cons_succ, List.map_cons, List.map_nil, m2, d2, q', no_times, e_times g.le97]
theorem pw_loop : ∀ (N : Nat) (f a : El p r) (n : Nat), n < N → ∃ a', sWh (asB (bin dGt (rdv 2) (Pd.ret (.int 0)))) b1_Field_power (N + 1) (pwE f a n) = some (.nx (pwE (f * a ^ n) a' 0))
  | 0, f, a, n, h => absurd h (Nat.not_lt_zero _)
  | N + 1, f, a, n, h => by
    by_cases q : n = 0
    · refine ⟨a, ?_⟩
      subst q
      have e1 : f * a ^ 0 = f := by rw [npw_zero]; grind
      rw [e1]
      rfl
    · obtain ⟨a', h1⟩ := pw_loop N (if n % 2 = 1 then f * a else f) (a * a) (n / 2) (by omega)
      refine ⟨a', ?_⟩
      have t : asB (bin dGt (rdv 2) (Pd.ret (.int 0))) (pwE f a n) = some (true, pwE f a n) := by
        have c : decide ((0 : Int) < (n : Int)) = true := decide_eq_true (by omega)
        simp [pwE, Pd.fnS_ap, Pd.fin_ap, Pd.ret_ap, Pd.lft_ap, Pd.bnd_ap, Pd.rdv_ap, Pd.bin_ap, Pd.una_ap, Pd.lNil_ap, Pd.lCons_ap, Pd.mTup_ap, Pd.mLst_ap, Pd.asB_ap, Pd.asI_ap, Pd.asTru_ap, Pd.mAnd_ap, Pd.mOr_ap, Pd.mNot_ap, Pd.vAnd_ap, Pd.vOr_ap, Pd.vNot_ap, Pd.mIf_ap, Pd.chn_ap, Pd.sSeq_ap, Pd.sSkip_ap, Pd.sAsg_ap, Pd.setN_if, Pd.nfB_un, Pd.nfB_sh, Pd.nfB_ow, Pd.sAsgH_if, Pd.sRet_ap, Pd.sRetN_ap, Pd.sIf_ap, Pd.sRaise_ap, Pd.sDrop_ap, Pd.sBk_ap, Pd.sCt_ap, Pd.sAug_ap, Pd.sFldS_ap, Pd.hotI_ap, Pd.hotL_ap, Pd.ixh_ap, Pd.hotRead_ap, Pd.sApp_ap, Pd.lenh_ap, Pd.mCut_ap, Pd.mSeq_ap, Pd.mCall_ap, Pd.mCallN_ap, Pd.mMeth_ap, Pd.mMethN_ap, Pd.slf_ap, Pd.mMake_ap, Pd.back_sh, Pd.back_nw, Pd.backN_nw, Pd.backI_mk, Pd.add_ii, Pd.sub_ii, Pd.neg_i, Pd.int_i, Pd.int_b, Pd.lt_ii, Pd.le_ii, Pd.gt_ii, Pd.ge_ii, Pd.isN_non, Pd.isN_int, Pd.isN_tup, Pd.isN_lst, Pd.isN_obj, Pd.notN_non, Pd.notN_tup, Pd.notN_int, Pd.len_lst, Pd.len_tup, Pd.len_scr, Pd.tru_non, Pd.tru_bl, Pd.tru_int, Pd.tru_lst, Pd.tru_tup, Pd.eq_int, Pd.ne_int, List.replicate, List.length_cons, List.length_nil, List.append_nil, List.cons_append, List.nil_append, List.getElem?_cons_zero, List.getElem?_cons_succ, List.set_cons_zero, List.set_cons_succ, List.map_cons, List.map_nil, c]
        omega
      unfold sWh
      rw [t]
      simp only [pw_b1]
      rw [h1, npw_sq]
      have e2 : (if n % 2 = 1 then f * a else f) * a ^ (2 * (n / 2)) = f * a ^ n := by
        by_cases c : n % 2 = 1
        · rw [if_pos c]
          have e : n = 2 * (n / 2) + 1 := by omega
          have e3 : a ^ n = a ^ (2 * (n / 2)) * a := by rw [← npw_succ, ← e]
          rw [e3]
          grind
        · rw [if_neg c]
          have e : n = 2 * (n / 2) := by omega
          rw [← e]
      rw [e2]
theorem e_power (x : El p r) (n : Nat) (hn : n < 1000) : back (f_Field_power [.sh (.obj "Field" (fldF p r)), .sh (prF x), .sh (.int (n : Int))]) = some (prF (x ^ n)) := by
  obtain ⟨a', h⟩ := pw_loop 99999 (1 : El p r) x n (by omega)
  have e1 : (1 : El p r) * x ^ n = x ^ n := by grind
  rw [e1] at h
  have h' : sWh (asB (bin dGt (rdv 2) (Pd.ret (.int 0)))) b1_Field_power fuel (pwE 1 x n) = some (.nx (pwE (x ^ n) a' 0)) := h
  simp only [pwE, prF_one (r := r)] at h'
  simp [f_Field_power, m_Field_power, Pd.fnS_ap, Pd.fin_ap, Pd.ret_ap, Pd.lft_ap, Pd.bnd_ap, Pd.rdv_ap, Pd.bin_ap, Pd.una_ap, Pd.lNil_ap, Pd.lCons_ap, Pd.mTup_ap, Pd.mLst_ap, Pd.asB_ap, Pd.asI_ap, Pd.asTru_ap, Pd.mAnd_ap, Pd.mOr_ap, Pd.mNot_ap, Pd.vAnd_ap, Pd.vOr_ap, Pd.vNot_ap, Pd.mIf_ap, Pd.chn_ap, Pd.sSeq_ap, Pd.sSkip_ap, Pd.sAsg_ap, Pd.setN_if, Pd.nfB_un, Pd.nfB_sh, Pd.nfB_ow, Pd.sAsgH_if, Pd.sRet_ap, Pd.sRetN_ap, Pd.sIf_ap, Pd.sRaise_ap, Pd.sDrop_ap, Pd.sBk_ap, Pd.sCt_ap, Pd.sAug_ap, Pd.sFldS_ap, Pd.hotI_ap, Pd.hotL_ap, Pd.ixh_ap, Pd.hotRead_ap, Pd.sApp_ap, Pd.lenh_ap, Pd.mCut_ap, Pd.mSeq_ap, Pd.mCall_ap, Pd.mCallN_ap, Pd.mMeth_ap, Pd.mMethN_ap, Pd.slf_ap, Pd.mMake_ap, Pd.back_sh, Pd.back_nw, Pd.backN_nw, Pd.backI_mk, Pd.add_ii, Pd.sub_ii, Pd.neg_i, Pd.int_i, Pd.int_b, Pd.lt_ii, Pd.le_ii, Pd.gt_ii, Pd.ge_ii, Pd.isN_non, Pd.isN_int, Pd.isN_tup, Pd.isN_lst, Pd.isN_obj, Pd.notN_non, Pd.notN_tup, Pd.notN_int, Pd.len_lst, Pd.len_tup, Pd.len_scr, Pd.tru_non, Pd.tru_bl, Pd.tru_int, Pd.tru_lst, Pd.tru_tup, Pd.eq_int, Pd.ne_int, List.replicate, List.length_cons, List.length_nil, List.append_nil, List.cons_append, List.nil_append, List.getElem?_cons_zero, List.getElem?_cons_succ, List.set_cons_zero, List.set_cons_succ, List.map_cons, List.map_nil, h']
end
end Lk66
set_option Elab.async false
set_option linter.all false
set_option maxRecDepth 100000
set_option maxHeartbeats 4000000
namespace Lk66
open PySem L2 Pd Fq
/-! ### what is refused -/
def badD : List D := [.int 0, .int 1, .int 2, .int 3, .int 4, .int 9, .int 49, .int 91, .int 95, .int 101, .int 103, .int (-7), .int 100000000000000000039, .bl true, .str "7", .non, .tup [.int 7], .int 77, .int 25]
def refB : Bool := badD.all fun v => match f_Field___init__ [.ow true (.ins "Field" []), .sh v] with
  | some (.ex c, _) => decide (c = "BadPrime")
  | _ => false
theorem refB_ok : refB = true := by decide +kernel
theorem e_refused {v : D} (h : v ∈ badD) : back (f__law_refused [.sh v]) = some (.bl true) := by
  have h1 := List.all_eq_true.mp refB_ok v h
  split at h1
  · rename_i c as' z
    have hc := of_decide_eq_true h1
    subst hc
    simp [f__law_refused, m__law_refused, Pd.fnS_ap, Pd.fin_ap, Pd.ret_ap, Pd.lft_ap, Pd.bnd_ap, Pd.rdv_ap, Pd.bin_ap, Pd.una_ap, Pd.lNil_ap, Pd.lCons_ap, Pd.mTup_ap, Pd.mLst_ap, Pd.asB_ap, Pd.asI_ap, Pd.asTru_ap, Pd.mAnd_ap, Pd.mOr_ap, Pd.mNot_ap, Pd.vAnd_ap, Pd.vOr_ap, Pd.vNot_ap, Pd.mIf_ap, Pd.chn_ap, Pd.sSeq_ap, Pd.sSkip_ap, Pd.sAsg_ap, Pd.setN_if, Pd.nfB_un, Pd.nfB_sh, Pd.nfB_ow, Pd.sAsgH_if, Pd.sRet_ap, Pd.sRetN_ap, Pd.sIf_ap, Pd.sRaise_ap, Pd.sDrop_ap, Pd.sBk_ap, Pd.sCt_ap, Pd.sAug_ap, Pd.sFldS_ap, Pd.hotI_ap, Pd.hotL_ap, Pd.ixh_ap, Pd.hotRead_ap, Pd.sApp_ap, Pd.lenh_ap, Pd.mCut_ap, Pd.mSeq_ap, Pd.mCall_ap, Pd.mCallN_ap, Pd.mMeth_ap, Pd.mMethN_ap, Pd.slf_ap, Pd.mMake_ap, Pd.back_sh, Pd.back_nw, Pd.backN_nw, Pd.backI_mk, Pd.add_ii, Pd.sub_ii, Pd.neg_i, Pd.int_i, Pd.int_b, Pd.lt_ii, Pd.le_ii, Pd.gt_ii, Pd.ge_ii, Pd.isN_non, Pd.isN_int, Pd.isN_tup, Pd.isN_lst, Pd.isN_obj, Pd.notN_non, Pd.notN_tup, Pd.notN_int, Pd.len_lst, Pd.len_tup, Pd.len_scr, Pd.tru_non, Pd.tru_bl, Pd.tru_int, Pd.tru_lst, Pd.tru_tup, Pd.eq_int, Pd.ne_int, List.replicate, List.length_cons, List.length_nil, List.append_nil, List.cons_append, List.nil_append, List.getElem?_cons_zero, List.getElem?_cons_succ, List.set_cons_zero, List.set_cons_succ, List.map_cons, List.map_nil, sTry, sMakeX, z]
  · cases h1
section
variable {p r : Nat} [NeZero p] [g : GoodO p r]
theorem e_noinv : back (f__law_no_inverse [.sh (.obj "Field" (fldF p r))]) = some (.bl true) := by
  have h : ∃ as', f_Field_inverse [.sh (.obj "Field" (fldF p r)), .sh (.tup [.int 0, .int 0])] = some (.ex "NoInverse", as') := by
    refine ⟨outs [.sh (.obj "Field" (fldF p r)), .sh (.tup [.int 0, .int 0])] [.sh (.obj "Field" (fldF p r)), .sh (.tup [.int 0, .int 0]), .un], ?_⟩
    simp [f_Field_inverse, m_Field_inverse, Pd.fnS_ap, Pd.fin_ap, Pd.ret_ap, Pd.lft_ap, Pd.bnd_ap, Pd.rdv_ap, Pd.bin_ap, Pd.una_ap, Pd.lNil_ap, Pd.lCons_ap, Pd.mTup_ap, Pd.mLst_ap, Pd.asB_ap, Pd.asI_ap, Pd.asTru_ap, Pd.mAnd_ap, Pd.mOr_ap, Pd.mNot_ap, Pd.vAnd_ap, Pd.vOr_ap, Pd.vNot_ap, Pd.mIf_ap, Pd.chn_ap, Pd.sSeq_ap, Pd.sSkip_ap, Pd.sAsg_ap, Pd.setN_if, Pd.nfB_un, Pd.nfB_sh, Pd.nfB_ow, Pd.sAsgH_if, Pd.sRet_ap, Pd.sRetN_ap, Pd.sIf_ap, Pd.sRaise_ap, Pd.sDrop_ap, Pd.sBk_ap, Pd.sCt_ap, Pd.sAug_ap, Pd.sFldS_ap, Pd.hotI_ap, Pd.hotL_ap, Pd.ixh_ap, Pd.hotRead_ap, Pd.sApp_ap, Pd.lenh_ap, Pd.mCut_ap, Pd.mSeq_ap, Pd.mCall_ap, Pd.mCallN_ap, Pd.mMeth_ap, Pd.mMethN_ap, Pd.slf_ap, Pd.mMake_ap, Pd.back_sh, Pd.back_nw, Pd.backN_nw, Pd.backI_mk, Pd.add_ii, Pd.sub_ii, Pd.neg_i, Pd.int_i, Pd.int_b, Pd.lt_ii, Pd.le_ii, Pd.gt_ii, Pd.ge_ii, Pd.isN_non, Pd.isN_int, Pd.isN_tup, Pd.isN_lst, Pd.isN_obj, Pd.notN_non, Pd.notN_tup, Pd.notN_int, Pd.len_lst, Pd.len_tup, Pd.len_scr, Pd.tru_non, Pd.tru_bl, Pd.tru_int, Pd.tru_lst, Pd.tru_tup, Pd.eq_int, Pd.ne_int, List.replicate, List.length_cons, List.length_nil, List.append_nil, List.cons_append, List.nil_append, List.getElem?_cons_zero, List.getElem?_cons_succ, List.set_cons_zero, List.set_cons_succ, List.map_cons, List.map_nil, eq_pair]
  obtain ⟨as', h⟩ := h
  simp [f__law_no_inverse, m__law_no_inverse, Pd.fnS_ap, Pd.fin_ap, Pd.ret_ap, Pd.lft_ap, Pd.bnd_ap, Pd.rdv_ap, Pd.bin_ap, Pd.una_ap, Pd.lNil_ap, Pd.lCons_ap, Pd.mTup_ap, Pd.mLst_ap, Pd.asB_ap, Pd.asI_ap, Pd.asTru_ap, Pd.mAnd_ap, Pd.mOr_ap, Pd.mNot_ap, Pd.vAnd_ap, Pd.vOr_ap, Pd.vNot_ap, Pd.mIf_ap, Pd.chn_ap, Pd.sSeq_ap, Pd.sSkip_ap, Pd.sAsg_ap, Pd.setN_if, Pd.nfB_un, Pd.nfB_sh, Pd.nfB_ow, Pd.sAsgH_if, Pd.sRet_ap, Pd.sRetN_ap, Pd.sIf_ap, Pd.sRaise_ap, Pd.sDrop_ap, Pd.sBk_ap, Pd.sCt_ap, Pd.sAug_ap, Pd.sFldS_ap, Pd.hotI_ap, Pd.hotL_ap, Pd.ixh_ap, Pd.hotRead_ap, Pd.sApp_ap, Pd.lenh_ap, Pd.mCut_ap, Pd.mSeq_ap, Pd.mCall_ap, Pd.mCallN_ap, Pd.mMeth_ap, Pd.mMethN_ap, Pd.slf_ap, Pd.mMake_ap, Pd.back_sh, Pd.back_nw, Pd.backN_nw, Pd.backI_mk, Pd.add_ii, Pd.sub_ii, Pd.neg_i, Pd.int_i, Pd.int_b, Pd.lt_ii, Pd.le_ii, Pd.gt_ii, Pd.ge_ii, Pd.isN_non, Pd.isN_int, Pd.isN_tup, Pd.isN_lst, Pd.isN_obj, Pd.notN_non, Pd.notN_tup, Pd.notN_int, Pd.len_lst, Pd.len_tup, Pd.len_scr, Pd.tru_non, Pd.tru_bl, Pd.tru_int, Pd.tru_lst, Pd.tru_tup, Pd.eq_int, Pd.ne_int, List.replicate, List.length_cons, List.length_nil, List.append_nil, List.cons_append, List.nil_append, List.getElem?_cons_zero, List.getElem?_cons_succ, List.set_cons_zero, List.set_cons_succ, List.map_cons, List.map_nil, sTry, sMethX, no_inverse, h, backX]
/-! ### squares -/
def sqI (p : Nat) : List Int := (List.range p).map fun (i : Nat) => ((i : Int) * (i : Int)) % (p : Int)
def Pf (p : Nat) : D → Bool
  | .int n => !(sqI p).contains n
  | _ => false
def FL (p : Nat) : List D := (rngD 2 ((p : Int) - 2).toNat).filter (Pf p)
def flB : Bool := primes.all fun x => match ((FL x.1)[0]? : Option D) with
  | some (.int i) => decide (i = x.2)
  | _ => false
theorem flB_ok : flB = true := by decide +kernel
theorem FL_0 : dIx (.lst (FL p)) (.int 0) = some (.int (r : Int)) := by
  have h := List.all_eq_true.mp flB_ok (p, r) g.mem
  refine ix_nat (by decide) ?_
  show (FL p)[0]? = _
  split at h
  · rename_i i z
    have e := of_decide_eq_true h
    rw [e] at z
    exact z
  · cases h
def kE (p r : Nat) (ns L : List Int) (s4 s5 s6 s7 s8 s9 s10 s11 : Sl) : En := [.sh (.scr ns), .sh (.lst (L.map .int)), .sh (.int (p : Int)), .sh (.obj "Field" (fldF p r)), s4, s5, s6, s7, s8, s9, s10, s11, .un]
def gsq : D → D
  | .int i => .int (i * i % (p : Int))
  | d => d
theorem all_sq (p : Nat) : allInts ((sqI p).map .int) = some (sqI p) := by
  generalize sqI p = l
  induction l with
  | nil => rfl
  | cons a l ih =>
    show (match allInts (l.map .int) with | some ns => some (a :: ns) | none => none) = _
    rw [ih]
theorem sq_run {ns L : List Int} : lcS (mRng1 (rdv 2)) [12] (setN 12) tYesM (bin dMod (una dInt (bin dMul (rdv 12) (rdv 12))) (rdv 2)) (kE p r ns L .un .un .un .un .un .un .un .un) = some ((sqI p).map .int, kE p r ns L .un .un .un .un .un .un .un .un) := by
  have h97 := g.le97
  have q := lcS_map (it := mRng1 (rdv 2)) (vs := [12]) (set := setN 12) (elt := bin dMod (una dInt (bin dMul (rdv 12) (rdv 12))) (rdv 2)) (gsq (p := p)) (e0 := kE p r ns L .un .un .un .un .un .un .un .un) (e := kE p r ns L .un .un .un .un .un .un .un .un) (ds := rngD 0 p) ((mRng1_ok (n := (p : Int)) (by rfl) (by omega) (by omega)).trans (by rfl)) rfl rfl (by rw [rngD_len]; omega) (fun d hd => by
    obtain ⟨i, hi, rfl⟩ := rng_p hd
    have m : dMul (.int (i : Int)) (.int (i : Int)) = some (.int ((i : Int) * i)) := mulOk_r (by omega)
    refine ⟨_, rfl, ?_, rfl⟩
    simp [kE, Pd.fnS_ap, Pd.fin_ap, Pd.ret_ap, Pd.lft_ap, Pd.bnd_ap, Pd.rdv_ap, Pd.bin_ap, Pd.una_ap, Pd.lNil_ap, Pd.lCons_ap, Pd.mTup_ap, Pd.mLst_ap, Pd.asB_ap, Pd.asI_ap, Pd.asTru_ap, Pd.mAnd_ap, Pd.mOr_ap, Pd.mNot_ap, Pd.vAnd_ap, Pd.vOr_ap, Pd.vNot_ap, Pd.mIf_ap, Pd.chn_ap, Pd.sSeq_ap, Pd.sSkip_ap, Pd.sAsg_ap, Pd.setN_if, Pd.nfB_un, Pd.nfB_sh, Pd.nfB_ow, Pd.sAsgH_if, Pd.sRet_ap, Pd.sRetN_ap, Pd.sIf_ap, Pd.sRaise_ap, Pd.sDrop_ap, Pd.sBk_ap, Pd.sCt_ap, Pd.sAug_ap, Pd.sFldS_ap, Pd.hotI_ap, Pd.hotL_ap, Pd.ixh_ap, Pd.hotRead_ap, Pd.sApp_ap, Pd.lenh_ap, Pd.mCut_ap, Pd.mSeq_ap, Pd.mCall_ap, Pd.mCallN_ap, Pd.mMeth_ap, Pd.mMethN_ap, Pd.slf_ap, Pd.mMake_ap, Pd.back_sh, Pd.back_nw, Pd.backN_nw, Pd.backI_mk, Pd.add_ii, Pd.sub_ii, Pd.neg_i, Pd.int_i, Pd.int_b, Pd.lt_ii, Pd.le_ii, Pd.gt_ii, Pd.ge_ii, Pd.isN_non, Pd.isN_int, Pd.isN_tup, Pd.isN_lst, Pd.isN_obj, Pd.notN_non, Pd.notN_tup, Pd.notN_int, Pd.len_lst, Pd.len_tup, Pd.len_scr, Pd.tru_non, Pd.tru_bl, Pd.tru_int, Pd.tru_lst, Pd.tru_tup, Pd.eq_int, Pd.ne_int, List.replicate, List.length_cons, List.length_nil, List.append_nil, List.cons_append, List.nil_append, List.getElem?_cons_zero, List.getElem?_cons_succ, List.set_cons_zero, List.set_cons_succ, List.map_cons, List.map_nil, m, mod_p, gsq])
  rw [q]
  have e : (rngD 0 p).map (gsq (p := p)) = (sqI p).map .int := by
    unfold sqI
    rw [rng_map, List.map_map, List.map_map]
    rfl
  rw [e]
theorem fl_run {ns L : List Int} : lcS (mRng2 (Pd.ret (.int 2)) (rdv 2)) [5] (setN 5) (asB (bin (dIn true) (rdv 5) (rdv 4))) (rdv 5) (kE p r ns L (.sh (.lst ((sqI p).map .int))) .un .un .un .un .un .un .un) = some (FL p, kE p r ns L (.sh (.lst ((sqI p).map .int))) .un .un .un .un .un .un .un) := by
  have h97 := g.le97
  have q := lcS_pure (it := mRng2 (Pd.ret (.int 2)) (rdv 2)) (vs := [5]) (set := setN 5) (tst := asB (bin (dIn true) (rdv 5) (rdv 4))) (elt := rdv 5) (Pf p) id (e0 := kE p r ns L (.sh (.lst ((sqI p).map .int))) .un .un .un .un .un .un .un) (e := kE p r ns L (.sh (.lst ((sqI p).map .int))) .un .un .un .un .un .un .un) (ds := rngD 2 ((p : Int) - 2).toNat) (mRng2_ok (m := 2) (n := (p : Int)) (by rfl) (by rfl) (by omega) (by omega) (by omega) (by omega)) rfl rfl (by rw [rngD_len]; omega) (fun d hd => by
    unfold rngD at hd
    obtain ⟨i, hi, rfl⟩ := List.mem_map.mp hd
    have c : dIn true (.int (2 + (i : Int))) (.lst ((sqI p).map .int)) = some (.bl (!(sqI p).contains (2 + (i : Int)))) := by
      unfold dIn
      simp only [all_sq]
      rfl
    refine ⟨_, rfl, ?_, fun _ => rfl, rfl⟩
    simp only [asB_ap, bin_ap]
    have r5 : rdv 5 ((kE p r ns L (.sh (.lst ((sqI p).map .int))) .un .un .un .un .un .un .un).set 5 (.sh (.int (2 + (i : Int))))) = some (.int (2 + (i : Int)), (kE p r ns L (.sh (.lst ((sqI p).map .int))) .un .un .un .un .un .un .un).set 5 (.sh (.int (2 + (i : Int))))) := rfl
    have r4 : rdv 4 ((kE p r ns L (.sh (.lst ((sqI p).map .int))) .un .un .un .un .un .un .un).set 5 (.sh (.int (2 + (i : Int))))) = some (.lst ((sqI p).map .int), (kE p r ns L (.sh (.lst ((sqI p).map .int))) .un .un .un .un .un .un .un).set 5 (.sh (.int (2 + (i : Int))))) := rfl
    simp only [r5, r4, c]
    rfl)
  rw [q, List.map_id] <;> rfl
/-! ### the loop -/
theorem e_numZ (z : Int) : back (f_Field_number [.sh (.obj "Field" (fldF p r)), .sh (.int z)]) = some (.tup [.int (z % p), .int 0]) := by
  simp [f_Field_number, m_Field_number, Pd.fnS_ap, Pd.fin_ap, Pd.ret_ap, Pd.lft_ap, Pd.bnd_ap, Pd.rdv_ap, Pd.bin_ap, Pd.una_ap, Pd.lNil_ap, Pd.lCons_ap, Pd.mTup_ap, Pd.mLst_ap, Pd.asB_ap, Pd.asI_ap, Pd.asTru_ap, Pd.mAnd_ap, Pd.mOr_ap, Pd.mNot_ap, Pd.vAnd_ap, Pd.vOr_ap, Pd.vNot_ap, Pd.mIf_ap, Pd.chn_ap, Pd.sSeq_ap, Pd.sSkip_ap, Pd.sAsg_ap, Pd.setN_if, Pd.nfB_un, Pd.nfB_sh, Pd.nfB_ow, Pd.sAsgH_if, Pd.sRet_ap, Pd.sRetN_ap, Pd.sIf_ap, Pd.sRaise_ap, Pd.sDrop_ap, Pd.sBk_ap, Pd.sCt_ap, Pd.sAug_ap, Pd.sFldS_ap, Pd.hotI_ap, Pd.hotL_ap, Pd.ixh_ap, Pd.hotRead_ap, Pd.sApp_ap, Pd.lenh_ap, Pd.mCut_ap, Pd.mSeq_ap, Pd.mCall_ap, Pd.mCallN_ap, Pd.mMeth_ap, Pd.mMethN_ap, Pd.slf_ap, Pd.mMake_ap, Pd.back_sh, Pd.back_nw, Pd.backN_nw, Pd.backI_mk, Pd.add_ii, Pd.sub_ii, Pd.neg_i, Pd.int_i, Pd.int_b, Pd.lt_ii, Pd.le_ii, Pd.gt_ii, Pd.ge_ii, Pd.isN_non, Pd.isN_int, Pd.isN_tup, Pd.isN_lst, Pd.isN_obj, Pd.notN_non, Pd.notN_tup, Pd.notN_int, Pd.len_lst, Pd.len_tup, Pd.len_scr, Pd.tru_non, Pd.tru_bl, Pd.tru_int, Pd.tru_lst, Pd.tru_tup, Pd.eq_int, Pd.ne_int, List.replicate, List.length_cons, List.length_nil, List.append_nil, List.cons_append, List.nil_append, List.getElem?_cons_zero, List.getElem?_cons_succ, List.set_cons_zero, List.set_cons_succ, List.map_cons, List.map_nil, fld_p, mod_p]
theorem prz (z : Int) : D.tup [.int (z % p), .int 0] = prF (⟨toF z, 0⟩ : El p r) := by
  have e : ((0 : Fin p)).val = 0 := by simp
  unfold prF
  rw [toF_val, e] <;> rfl
theorem same_z (r : Nat) [g : GoodO p r] (z : Int) : back (f__law_same [.sh (.int (p : Int)), .sh (.tup [.int (z % p), .int 0]), .sh (.tup [.int (z % p), .int 0])]) = some (.bl true) := by
  rw [prz (r := r), e_same]
  simp
theorem same_1 (x : El p r) : back (f__law_same [.sh (.int (p : Int)), .sh (prF x), .sh (.tup [.int 1, .int 0])]) = some (.bl (decide (x = 1))) := by
  rw [← prF_one (p := p) (r := r), e_same]
theorem lb {ns L : List Int} {s4 s6 t5 t8 t9 t10 : Sl} (n5 : nfB t5 = true) (n8 : nfB t8 = true) (n9 : nfB t9 = true) (n10 : nfB t10 = true) {k d1 d2 d3 d4 d5 d6 : Int} (x1 : dIx (.lst (L.map .int)) (.int (1 + 6 * k)) = some (.int d1)) (x2 : dIx (.lst (L.map .int)) (.int (2 + 6 * k)) = some (.int d2)) (x3 : dIx (.lst (L.map .int)) (.int (3 + 6 * k)) = some (.int d3)) (x4 : dIx (.lst (L.map .int)) (.int (4 + 6 * k)) = some (.int d4)) (x5 : dIx (.lst (L.map .int)) (.int (5 + 6 * k)) = some (.int d5)) (x6 : dIx (.lst (L.map .int)) (.int (6 + 6 * k)) = some (.int d6)) :
    ∃ s5 s8 s9 s10, b1_law (kE p r ns L s4 t5 s6 (.sh (.int k)) t8 t9 t10 .un) = some (.nx (kE p r ns L s4 s5 s6 (.sh (.int k)) s8 s9 s10 .un)) ∧ nfB s5 = true ∧ nfB s8 = true ∧ nfB s9 = true ∧ nfB s10 = true := by
  have h97 := g.le97
  obtain ⟨a, ha⟩ := e_member (p := p) (r := r) d1 d2
  obtain ⟨b, hb⟩ := e_member (p := p) (r := r) d3 d4
  have m6 : dMul (.int 6) (.int k) = some (.int (6 * k)) := mulOk_l (by decide)
  have c0 : 0 ≤ d5 % 61 := Int.emod_nonneg _ (by decide)
  have c1 : d5 % 61 < 61 := Int.emod_lt_of_pos _ (by decide)
  obtain ⟨n, hn⟩ : ∃ n : Nat, d5 % 61 = n := ⟨(d5 % 61).toNat, by omega⟩
  have m61 : dMod (.int d5) (.int 61) = some (.int (n : Int)) := by rw [dmod_ok (by decide), hn]
  have m3 : dMod (.int d5) (.int 3) = some (.int (d5 % 3)) := dmod_ok (by decide)
  have pw : dPow (.int 10) (.int 30) = some (.int 1000000000000000000000000000000) := by rfl
  obtain ⟨z, hz⟩ : ∃ z, dIx (.lst [.int d6, .int (-d6), .int (1000000000000000000000000000000 + d6)]) (.int (d5 % 3)) = some (.int z) := by
    have i0 : 0 ≤ d5 % 3 := Int.emod_nonneg _ (by decide)
    have i1 : d5 % 3 < 3 := Int.emod_lt_of_pos _ (by decide)
    have c : (d5 % 3).toNat = 0 ∨ (d5 % 3).toNat = 1 ∨ (d5 % 3).toNat = 2 := by omega
    rcases c with c | c | c
    · exact ⟨_, ix_nat i0 (by rw [c] <;> rfl)⟩
    · exact ⟨_, ix_nat i0 (by rw [c] <;> rfl)⟩
    · exact ⟨_, ix_nat i0 (by rw [c] <;> rfl)⟩
  let e1 : En := kE p r ns L s4 t5 s6 (.sh (.int k)) (.sh (prF a)) (.sh (prF b)) t10 .un
  let e2 : En := kE p r ns L s4 (.sh (.int (n : Int))) s6 (.sh (.int k)) (.sh (prF a)) (.sh (prF b)) t10 .un
  let e3 : En := kE p r ns L s4 (.sh (.int (n : Int))) s6 (.sh (.int k)) (.sh (prF a)) (.sh (prF b)) (.sh (.int z)) .un
  refine ⟨.sh (.int (n : Int)), .sh (prF a), .sh (prF b), .sh (.int z), ?_, rfl, rfl, rfl, rfl⟩
  unfold b1_law
  rw [sSeq_nx (e1 := e1) (sPar_ok (x := prF a) (y := prF b) (e1 := kE p r ns L s4 t5 s6 (.sh (.int k)) t8 t9 t10 .un) (e2 := kE p r ns L s4 t5 s6 (.sh (.int k)) t8 t9 t10 .un) (by simp [kE, Pd.fnS_ap, Pd.fin_ap, Pd.ret_ap, Pd.lft_ap, Pd.bnd_ap, Pd.rdv_ap, Pd.bin_ap, Pd.una_ap, Pd.lNil_ap, Pd.lCons_ap, Pd.mTup_ap, Pd.mLst_ap, Pd.asB_ap, Pd.asI_ap, Pd.asTru_ap, Pd.mAnd_ap, Pd.mOr_ap, Pd.mNot_ap, Pd.vAnd_ap, Pd.vOr_ap, Pd.vNot_ap, Pd.mIf_ap, Pd.chn_ap, Pd.sSeq_ap, Pd.sSkip_ap, Pd.sAsg_ap, Pd.setN_if, Pd.nfB_un, Pd.nfB_sh, Pd.nfB_ow, Pd.sAsgH_if, Pd.sRet_ap, Pd.sRetN_ap, Pd.sIf_ap, Pd.sRaise_ap, Pd.sDrop_ap, Pd.sBk_ap, Pd.sCt_ap, Pd.sAug_ap, Pd.sFldS_ap, Pd.hotI_ap, Pd.hotL_ap, Pd.ixh_ap, Pd.hotRead_ap, Pd.sApp_ap, Pd.lenh_ap, Pd.mCut_ap, Pd.mSeq_ap, Pd.mCall_ap, Pd.mCallN_ap, Pd.mMeth_ap, Pd.mMethN_ap, Pd.slf_ap, Pd.mMake_ap, Pd.back_sh, Pd.back_nw, Pd.backN_nw, Pd.backI_mk, Pd.add_ii, Pd.sub_ii, Pd.neg_i, Pd.int_i, Pd.int_b, Pd.lt_ii, Pd.le_ii, Pd.gt_ii, Pd.ge_ii, Pd.isN_non, Pd.isN_int, Pd.isN_tup, Pd.isN_lst, Pd.isN_obj, Pd.notN_non, Pd.notN_tup, Pd.notN_int, Pd.len_lst, Pd.len_tup, Pd.len_scr, Pd.tru_non, Pd.tru_bl, Pd.tru_int, Pd.tru_lst, Pd.tru_tup, Pd.eq_int, Pd.ne_int, List.replicate, List.length_cons, List.length_nil, List.append_nil, List.cons_append, List.nil_append, List.getElem?_cons_zero, List.getElem?_cons_succ, List.set_cons_zero, List.set_cons_succ, List.map_cons, List.map_nil, m6, x1, x2, ha]) (by simp [kE, Pd.fnS_ap, Pd.fin_ap, Pd.ret_ap, Pd.lft_ap, Pd.bnd_ap, Pd.rdv_ap, Pd.bin_ap, Pd.una_ap, Pd.lNil_ap, Pd.lCons_ap, Pd.mTup_ap, Pd.mLst_ap, Pd.asB_ap, Pd.asI_ap, Pd.asTru_ap, Pd.mAnd_ap, Pd.mOr_ap, Pd.mNot_ap, Pd.vAnd_ap, Pd.vOr_ap, Pd.vNot_ap, Pd.mIf_ap, Pd.chn_ap, Pd.sSeq_ap, Pd.sSkip_ap, Pd.sAsg_ap, Pd.setN_if, Pd.nfB_un, Pd.nfB_sh, Pd.nfB_ow, Pd.sAsgH_if, Pd.sRet_ap, Pd.sRetN_ap, Pd.sIf_ap, Pd.sRaise_ap, Pd.sDrop_ap, Pd.sBk_ap, Pd.sCt_ap, Pd.sAug_ap, Pd.sFldS_ap, Pd.hotI_ap, Pd.hotL_ap, Pd.ixh_ap, Pd.hotRead_ap, Pd.sApp_ap, Pd.lenh_ap, Pd.mCut_ap, Pd.mSeq_ap, Pd.mCall_ap, Pd.mCallN_ap, Pd.mMeth_ap, Pd.mMethN_ap, Pd.slf_ap, Pd.mMake_ap, Pd.back_sh, Pd.back_nw, Pd.backN_nw, Pd.backI_mk, Pd.add_ii, Pd.sub_ii, Pd.neg_i, Pd.int_i, Pd.int_b, Pd.lt_ii, Pd.le_ii, Pd.gt_ii, Pd.ge_ii, Pd.isN_non, Pd.isN_int, Pd.isN_tup, Pd.isN_lst, Pd.isN_obj, Pd.notN_non, Pd.notN_tup, Pd.notN_int, Pd.len_lst, Pd.len_tup, Pd.len_scr, Pd.tru_non, Pd.tru_bl, Pd.tru_int, Pd.tru_lst, Pd.tru_tup, Pd.eq_int, Pd.ne_int, List.replicate, List.length_cons, List.length_nil, List.append_nil, List.cons_append, List.nil_append, List.getElem?_cons_zero, List.getElem?_cons_succ, List.set_cons_zero, List.set_cons_succ, List.map_cons, List.map_nil, m6, x3, x4, hb]) rfl rfl n8 n9)]
  rw [sSeq_nx (e1 := e1) (by simp [e1, kE, Pd.fnS_ap, Pd.fin_ap, Pd.ret_ap, Pd.lft_ap, Pd.bnd_ap, Pd.rdv_ap, Pd.bin_ap, Pd.una_ap, Pd.lNil_ap, Pd.lCons_ap, Pd.mTup_ap, Pd.mLst_ap, Pd.asB_ap, Pd.asI_ap, Pd.asTru_ap, Pd.mAnd_ap, Pd.mOr_ap, Pd.mNot_ap, Pd.vAnd_ap, Pd.vOr_ap, Pd.vNot_ap, Pd.mIf_ap, Pd.chn_ap, Pd.sSeq_ap, Pd.sSkip_ap, Pd.sAsg_ap, Pd.setN_if, Pd.nfB_un, Pd.nfB_sh, Pd.nfB_ow, Pd.sAsgH_if, Pd.sRet_ap, Pd.sRetN_ap, Pd.sIf_ap, Pd.sRaise_ap, Pd.sDrop_ap, Pd.sBk_ap, Pd.sCt_ap, Pd.sAug_ap, Pd.sFldS_ap, Pd.hotI_ap, Pd.hotL_ap, Pd.ixh_ap, Pd.hotRead_ap, Pd.sApp_ap, Pd.lenh_ap, Pd.mCut_ap, Pd.mSeq_ap, Pd.mCall_ap, Pd.mCallN_ap, Pd.mMeth_ap, Pd.mMethN_ap, Pd.slf_ap, Pd.mMake_ap, Pd.back_sh, Pd.back_nw, Pd.backN_nw, Pd.backI_mk, Pd.add_ii, Pd.sub_ii, Pd.neg_i, Pd.int_i, Pd.int_b, Pd.lt_ii, Pd.le_ii, Pd.gt_ii, Pd.ge_ii, Pd.isN_non, Pd.isN_int, Pd.isN_tup, Pd.isN_lst, Pd.isN_obj, Pd.notN_non, Pd.notN_tup, Pd.notN_int, Pd.len_lst, Pd.len_tup, Pd.len_scr, Pd.tru_non, Pd.tru_bl, Pd.tru_int, Pd.tru_lst, Pd.tru_tup, Pd.eq_int, Pd.ne_int, List.replicate, List.length_cons, List.length_nil, List.append_nil, List.cons_append, List.nil_append, List.getElem?_cons_zero, List.getElem?_cons_succ, List.set_cons_zero, List.set_cons_succ, List.map_cons, List.map_nil, no_plus, no_minus, e_plus, e_lplus, e_minus, e_lminus, e_same])]
  rw [sSeq_nx (e1 := e2) (by simp [e1, e2, kE, Pd.fnS_ap, Pd.fin_ap, Pd.ret_ap, Pd.lft_ap, Pd.bnd_ap, Pd.rdv_ap, Pd.bin_ap, Pd.una_ap, Pd.lNil_ap, Pd.lCons_ap, Pd.mTup_ap, Pd.mLst_ap, Pd.asB_ap, Pd.asI_ap, Pd.asTru_ap, Pd.mAnd_ap, Pd.mOr_ap, Pd.mNot_ap, Pd.vAnd_ap, Pd.vOr_ap, Pd.vNot_ap, Pd.mIf_ap, Pd.chn_ap, Pd.sSeq_ap, Pd.sSkip_ap, Pd.sAsg_ap, Pd.setN_if, Pd.nfB_un, Pd.nfB_sh, Pd.nfB_ow, Pd.sAsgH_if, Pd.sRet_ap, Pd.sRetN_ap, Pd.sIf_ap, Pd.sRaise_ap, Pd.sDrop_ap, Pd.sBk_ap, Pd.sCt_ap, Pd.sAug_ap, Pd.sFldS_ap, Pd.hotI_ap, Pd.hotL_ap, Pd.ixh_ap, Pd.hotRead_ap, Pd.sApp_ap, Pd.lenh_ap, Pd.mCut_ap, Pd.mSeq_ap, Pd.mCall_ap, Pd.mCallN_ap, Pd.mMeth_ap, Pd.mMethN_ap, Pd.slf_ap, Pd.mMake_ap, Pd.back_sh, Pd.back_nw, Pd.backN_nw, Pd.backI_mk, Pd.add_ii, Pd.sub_ii, Pd.neg_i, Pd.int_i, Pd.int_b, Pd.lt_ii, Pd.le_ii, Pd.gt_ii, Pd.ge_ii, Pd.isN_non, Pd.isN_int, Pd.isN_tup, Pd.isN_lst, Pd.isN_obj, Pd.notN_non, Pd.notN_tup, Pd.notN_int, Pd.len_lst, Pd.len_tup, Pd.len_scr, Pd.tru_non, Pd.tru_bl, Pd.tru_int, Pd.tru_lst, Pd.tru_tup, Pd.eq_int, Pd.ne_int, List.replicate, List.length_cons, List.length_nil, List.append_nil, List.cons_append, List.nil_append, List.getElem?_cons_zero, List.getElem?_cons_succ, List.set_cons_zero, List.set_cons_succ, List.map_cons, List.map_nil, m6, x5, m61, n5])]
  rw [sSeq_nx (e1 := e2) (by simp [e2, kE, Pd.fnS_ap, Pd.fin_ap, Pd.ret_ap, Pd.lft_ap, Pd.bnd_ap, Pd.rdv_ap, Pd.bin_ap, Pd.una_ap, Pd.lNil_ap, Pd.lCons_ap, Pd.mTup_ap, Pd.mLst_ap, Pd.asB_ap, Pd.asI_ap, Pd.asTru_ap, Pd.mAnd_ap, Pd.mOr_ap, Pd.mNot_ap, Pd.vAnd_ap, Pd.vOr_ap, Pd.vNot_ap, Pd.mIf_ap, Pd.chn_ap, Pd.sSeq_ap, Pd.sSkip_ap, Pd.sAsg_ap, Pd.setN_if, Pd.nfB_un, Pd.nfB_sh, Pd.nfB_ow, Pd.sAsgH_if, Pd.sRet_ap, Pd.sRetN_ap, Pd.sIf_ap, Pd.sRaise_ap, Pd.sDrop_ap, Pd.sBk_ap, Pd.sCt_ap, Pd.sAug_ap, Pd.sFldS_ap, Pd.hotI_ap, Pd.hotL_ap, Pd.ixh_ap, Pd.hotRead_ap, Pd.sApp_ap, Pd.lenh_ap, Pd.mCut_ap, Pd.mSeq_ap, Pd.mCall_ap, Pd.mCallN_ap, Pd.mMeth_ap, Pd.mMethN_ap, Pd.slf_ap, Pd.mMake_ap, Pd.back_sh, Pd.back_nw, Pd.backN_nw, Pd.backI_mk, Pd.add_ii, Pd.sub_ii, Pd.neg_i, Pd.int_i, Pd.int_b, Pd.lt_ii, Pd.le_ii, Pd.gt_ii, Pd.ge_ii, Pd.isN_non, Pd.isN_int, Pd.isN_tup, Pd.isN_lst, Pd.isN_obj, Pd.notN_non, Pd.notN_tup, Pd.notN_int, Pd.len_lst, Pd.len_tup, Pd.len_scr, Pd.tru_non, Pd.tru_bl, Pd.tru_int, Pd.tru_lst, Pd.tru_tup, Pd.eq_int, Pd.ne_int, List.replicate, List.length_cons, List.length_nil, List.append_nil, List.cons_append, List.nil_append, List.getElem?_cons_zero, List.getElem?_cons_succ, List.set_cons_zero, List.set_cons_succ, List.map_cons, List.map_nil, no_times, no_power, e_times h97, e_ltimes, e_power a n (by omega), e_repeated a n (by omega), e_same])]
  rw [sSeq_nx (e1 := e2) (by simp [e2, kE, Pd.fnS_ap, Pd.fin_ap, Pd.ret_ap, Pd.lft_ap, Pd.bnd_ap, Pd.rdv_ap, Pd.bin_ap, Pd.una_ap, Pd.lNil_ap, Pd.lCons_ap, Pd.mTup_ap, Pd.mLst_ap, Pd.asB_ap, Pd.asI_ap, Pd.asTru_ap, Pd.mAnd_ap, Pd.mOr_ap, Pd.mNot_ap, Pd.vAnd_ap, Pd.vOr_ap, Pd.vNot_ap, Pd.mIf_ap, Pd.chn_ap, Pd.sSeq_ap, Pd.sSkip_ap, Pd.sAsg_ap, Pd.setN_if, Pd.nfB_un, Pd.nfB_sh, Pd.nfB_ow, Pd.sAsgH_if, Pd.sRet_ap, Pd.sRetN_ap, Pd.sIf_ap, Pd.sRaise_ap, Pd.sDrop_ap, Pd.sBk_ap, Pd.sCt_ap, Pd.sAug_ap, Pd.sFldS_ap, Pd.hotI_ap, Pd.hotL_ap, Pd.ixh_ap, Pd.hotRead_ap, Pd.sApp_ap, Pd.lenh_ap, Pd.mCut_ap, Pd.mSeq_ap, Pd.mCall_ap, Pd.mCallN_ap, Pd.mMeth_ap, Pd.mMethN_ap, Pd.slf_ap, Pd.mMake_ap, Pd.back_sh, Pd.back_nw, Pd.backN_nw, Pd.backI_mk, Pd.add_ii, Pd.sub_ii, Pd.neg_i, Pd.int_i, Pd.int_b, Pd.lt_ii, Pd.le_ii, Pd.gt_ii, Pd.ge_ii, Pd.isN_non, Pd.isN_int, Pd.isN_tup, Pd.isN_lst, Pd.isN_obj, Pd.notN_non, Pd.notN_tup, Pd.notN_int, Pd.len_lst, Pd.len_tup, Pd.len_scr, Pd.tru_non, Pd.tru_bl, Pd.tru_int, Pd.tru_lst, Pd.tru_tup, Pd.eq_int, Pd.ne_int, List.replicate, List.length_cons, List.length_nil, List.append_nil, List.cons_append, List.nil_append, List.getElem?_cons_zero, List.getElem?_cons_succ, List.set_cons_zero, List.set_cons_succ, List.map_cons, List.map_nil, no_turned, e_turned, e_repeated a p (by omega), fro, e_same])]
  by_cases h0 : a = 0
  · have dz := ne_pr a (0 : El p r)
    rw [prF_zero, h0] at dz
    simp only [decide_true, Bool.not_true] at dz
    rw [sSeq_nx (e1 := e2) (by simp [e2, kE, Pd.fnS_ap, Pd.fin_ap, Pd.ret_ap, Pd.lft_ap, Pd.bnd_ap, Pd.rdv_ap, Pd.bin_ap, Pd.una_ap, Pd.lNil_ap, Pd.lCons_ap, Pd.mTup_ap, Pd.mLst_ap, Pd.asB_ap, Pd.asI_ap, Pd.asTru_ap, Pd.mAnd_ap, Pd.mOr_ap, Pd.mNot_ap, Pd.vAnd_ap, Pd.vOr_ap, Pd.vNot_ap, Pd.mIf_ap, Pd.chn_ap, Pd.sSeq_ap, Pd.sSkip_ap, Pd.sAsg_ap, Pd.setN_if, Pd.nfB_un, Pd.nfB_sh, Pd.nfB_ow, Pd.sAsgH_if, Pd.sRet_ap, Pd.sRetN_ap, Pd.sIf_ap, Pd.sRaise_ap, Pd.sDrop_ap, Pd.sBk_ap, Pd.sCt_ap, Pd.sAug_ap, Pd.sFldS_ap, Pd.hotI_ap, Pd.hotL_ap, Pd.ixh_ap, Pd.hotRead_ap, Pd.sApp_ap, Pd.lenh_ap, Pd.mCut_ap, Pd.mSeq_ap, Pd.mCall_ap, Pd.mCallN_ap, Pd.mMeth_ap, Pd.mMethN_ap, Pd.slf_ap, Pd.mMake_ap, Pd.back_sh, Pd.back_nw, Pd.backN_nw, Pd.backI_mk, Pd.add_ii, Pd.sub_ii, Pd.neg_i, Pd.int_i, Pd.int_b, Pd.lt_ii, Pd.le_ii, Pd.gt_ii, Pd.ge_ii, Pd.isN_non, Pd.isN_int, Pd.isN_tup, Pd.isN_lst, Pd.isN_obj, Pd.notN_non, Pd.notN_tup, Pd.notN_int, Pd.len_lst, Pd.len_tup, Pd.len_scr, Pd.tru_non, Pd.tru_bl, Pd.tru_int, Pd.tru_lst, Pd.tru_tup, Pd.eq_int, Pd.ne_int, List.replicate, List.length_cons, List.length_nil, List.append_nil, List.cons_append, List.nil_append, List.getElem?_cons_zero, List.getElem?_cons_succ, List.set_cons_zero, List.set_cons_succ, List.map_cons, List.map_nil, h0, dz])]
    rw [sSeq_nx (e1 := e2) (by simp [e2, kE, Pd.fnS_ap, Pd.fin_ap, Pd.ret_ap, Pd.lft_ap, Pd.bnd_ap, Pd.rdv_ap, Pd.bin_ap, Pd.una_ap, Pd.lNil_ap, Pd.lCons_ap, Pd.mTup_ap, Pd.mLst_ap, Pd.asB_ap, Pd.asI_ap, Pd.asTru_ap, Pd.mAnd_ap, Pd.mOr_ap, Pd.mNot_ap, Pd.vAnd_ap, Pd.vOr_ap, Pd.vNot_ap, Pd.mIf_ap, Pd.chn_ap, Pd.sSeq_ap, Pd.sSkip_ap, Pd.sAsg_ap, Pd.setN_if, Pd.nfB_un, Pd.nfB_sh, Pd.nfB_ow, Pd.sAsgH_if, Pd.sRet_ap, Pd.sRetN_ap, Pd.sIf_ap, Pd.sRaise_ap, Pd.sDrop_ap, Pd.sBk_ap, Pd.sCt_ap, Pd.sAug_ap, Pd.sFldS_ap, Pd.hotI_ap, Pd.hotL_ap, Pd.ixh_ap, Pd.hotRead_ap, Pd.sApp_ap, Pd.lenh_ap, Pd.mCut_ap, Pd.mSeq_ap, Pd.mCall_ap, Pd.mCallN_ap, Pd.mMeth_ap, Pd.mMethN_ap, Pd.slf_ap, Pd.mMake_ap, Pd.back_sh, Pd.back_nw, Pd.backN_nw, Pd.backI_mk, Pd.add_ii, Pd.sub_ii, Pd.neg_i, Pd.int_i, Pd.int_b, Pd.lt_ii, Pd.le_ii, Pd.gt_ii, Pd.ge_ii, Pd.isN_non, Pd.isN_int, Pd.isN_tup, Pd.isN_lst, Pd.isN_obj, Pd.notN_non, Pd.notN_tup, Pd.notN_int, Pd.len_lst, Pd.len_tup, Pd.len_scr, Pd.tru_non, Pd.tru_bl, Pd.tru_int, Pd.tru_lst, Pd.tru_tup, Pd.eq_int, Pd.ne_int, List.replicate, List.length_cons, List.length_nil, List.append_nil, List.cons_append, List.nil_append, List.getElem?_cons_zero, List.getElem?_cons_succ, List.set_cons_zero, List.set_cons_succ, List.map_cons, List.map_nil, h0, dz])]
    rw [sSeq_nx (e1 := e3) (by simp [e2, e3, kE, Pd.fnS_ap, Pd.fin_ap, Pd.ret_ap, Pd.lft_ap, Pd.bnd_ap, Pd.rdv_ap, Pd.bin_ap, Pd.una_ap, Pd.lNil_ap, Pd.lCons_ap, Pd.mTup_ap, Pd.mLst_ap, Pd.asB_ap, Pd.asI_ap, Pd.asTru_ap, Pd.mAnd_ap, Pd.mOr_ap, Pd.mNot_ap, Pd.vAnd_ap, Pd.vOr_ap, Pd.vNot_ap, Pd.mIf_ap, Pd.chn_ap, Pd.sSeq_ap, Pd.sSkip_ap, Pd.sAsg_ap, Pd.setN_if, Pd.nfB_un, Pd.nfB_sh, Pd.nfB_ow, Pd.sAsgH_if, Pd.sRet_ap, Pd.sRetN_ap, Pd.sIf_ap, Pd.sRaise_ap, Pd.sDrop_ap, Pd.sBk_ap, Pd.sCt_ap, Pd.sAug_ap, Pd.sFldS_ap, Pd.hotI_ap, Pd.hotL_ap, Pd.ixh_ap, Pd.hotRead_ap, Pd.sApp_ap, Pd.lenh_ap, Pd.mCut_ap, Pd.mSeq_ap, Pd.mCall_ap, Pd.mCallN_ap, Pd.mMeth_ap, Pd.mMethN_ap, Pd.slf_ap, Pd.mMake_ap, Pd.back_sh, Pd.back_nw, Pd.backN_nw, Pd.backI_mk, Pd.add_ii, Pd.sub_ii, Pd.neg_i, Pd.int_i, Pd.int_b, Pd.lt_ii, Pd.le_ii, Pd.gt_ii, Pd.ge_ii, Pd.isN_non, Pd.isN_int, Pd.isN_tup, Pd.isN_lst, Pd.isN_obj, Pd.notN_non, Pd.notN_tup, Pd.notN_int, Pd.len_lst, Pd.len_tup, Pd.len_scr, Pd.tru_non, Pd.tru_bl, Pd.tru_int, Pd.tru_lst, Pd.tru_tup, Pd.eq_int, Pd.ne_int, List.replicate, List.length_cons, List.length_nil, List.append_nil, List.cons_append, List.nil_append, List.getElem?_cons_zero, List.getElem?_cons_succ, List.set_cons_zero, List.set_cons_succ, List.map_cons, List.map_nil, m6, x5, x6, m3, pw, hz, n10])]
    simp [e3, kE, Pd.fnS_ap, Pd.fin_ap, Pd.ret_ap, Pd.lft_ap, Pd.bnd_ap, Pd.rdv_ap, Pd.bin_ap, Pd.una_ap, Pd.lNil_ap, Pd.lCons_ap, Pd.mTup_ap, Pd.mLst_ap, Pd.asB_ap, Pd.asI_ap, Pd.asTru_ap, Pd.mAnd_ap, Pd.mOr_ap, Pd.mNot_ap, Pd.vAnd_ap, Pd.vOr_ap, Pd.vNot_ap, Pd.mIf_ap, Pd.chn_ap, Pd.sSeq_ap, Pd.sSkip_ap, Pd.sAsg_ap, Pd.setN_if, Pd.nfB_un, Pd.nfB_sh, Pd.nfB_ow, Pd.sAsgH_if, Pd.sRet_ap, Pd.sRetN_ap, Pd.sIf_ap, Pd.sRaise_ap, Pd.sDrop_ap, Pd.sBk_ap, Pd.sCt_ap, Pd.sAug_ap, Pd.sFldS_ap, Pd.hotI_ap, Pd.hotL_ap, Pd.ixh_ap, Pd.hotRead_ap, Pd.sApp_ap, Pd.lenh_ap, Pd.mCut_ap, Pd.mSeq_ap, Pd.mCall_ap, Pd.mCallN_ap, Pd.mMeth_ap, Pd.mMethN_ap, Pd.slf_ap, Pd.mMake_ap, Pd.back_sh, Pd.back_nw, Pd.backN_nw, Pd.backI_mk, Pd.add_ii, Pd.sub_ii, Pd.neg_i, Pd.int_i, Pd.int_b, Pd.lt_ii, Pd.le_ii, Pd.gt_ii, Pd.ge_ii, Pd.isN_non, Pd.isN_int, Pd.isN_tup, Pd.isN_lst, Pd.isN_obj, Pd.notN_non, Pd.notN_tup, Pd.notN_int, Pd.len_lst, Pd.len_tup, Pd.len_scr, Pd.tru_non, Pd.tru_bl, Pd.tru_int, Pd.tru_lst, Pd.tru_tup, Pd.eq_int, Pd.ne_int, List.replicate, List.length_cons, List.length_nil, List.append_nil, List.cons_append, List.nil_append, List.getElem?_cons_zero, List.getElem?_cons_succ, List.set_cons_zero, List.set_cons_succ, List.map_cons, List.map_nil, no_number, e_numZ, mod_p, same_z r]
  · have dz := ne_pr a (0 : El p r)
    rw [prF_zero, decide_eq_false h0] at dz
    simp only [Bool.not_false] at dz
    have hi : a * a⁻¹ = 1 := mul_inv h0
    rw [sSeq_nx (e1 := e2) (by simp [e2, kE, Pd.fnS_ap, Pd.fin_ap, Pd.ret_ap, Pd.lft_ap, Pd.bnd_ap, Pd.rdv_ap, Pd.bin_ap, Pd.una_ap, Pd.lNil_ap, Pd.lCons_ap, Pd.mTup_ap, Pd.mLst_ap, Pd.asB_ap, Pd.asI_ap, Pd.asTru_ap, Pd.mAnd_ap, Pd.mOr_ap, Pd.mNot_ap, Pd.vAnd_ap, Pd.vOr_ap, Pd.vNot_ap, Pd.mIf_ap, Pd.chn_ap, Pd.sSeq_ap, Pd.sSkip_ap, Pd.sAsg_ap, Pd.setN_if, Pd.nfB_un, Pd.nfB_sh, Pd.nfB_ow, Pd.sAsgH_if, Pd.sRet_ap, Pd.sRetN_ap, Pd.sIf_ap, Pd.sRaise_ap, Pd.sDrop_ap, Pd.sBk_ap, Pd.sCt_ap, Pd.sAug_ap, Pd.sFldS_ap, Pd.hotI_ap, Pd.hotL_ap, Pd.ixh_ap, Pd.hotRead_ap, Pd.sApp_ap, Pd.lenh_ap, Pd.mCut_ap, Pd.mSeq_ap, Pd.mCall_ap, Pd.mCallN_ap, Pd.mMeth_ap, Pd.mMethN_ap, Pd.slf_ap, Pd.mMake_ap, Pd.back_sh, Pd.back_nw, Pd.backN_nw, Pd.backI_mk, Pd.add_ii, Pd.sub_ii, Pd.neg_i, Pd.int_i, Pd.int_b, Pd.lt_ii, Pd.le_ii, Pd.gt_ii, Pd.ge_ii, Pd.isN_non, Pd.isN_int, Pd.isN_tup, Pd.isN_lst, Pd.isN_obj, Pd.notN_non, Pd.notN_tup, Pd.notN_int, Pd.len_lst, Pd.len_tup, Pd.len_scr, Pd.tru_non, Pd.tru_bl, Pd.tru_int, Pd.tru_lst, Pd.tru_tup, Pd.eq_int, Pd.ne_int, List.replicate, List.length_cons, List.length_nil, List.append_nil, List.cons_append, List.nil_append, List.getElem?_cons_zero, List.getElem?_cons_succ, List.set_cons_zero, List.set_cons_succ, List.map_cons, List.map_nil, dz, no_inverse, e_inverse h97 h0, e_ltimes, same_1, hi])]
    rw [sSeq_nx (e1 := e2) (by simp [e2, kE, Pd.fnS_ap, Pd.fin_ap, Pd.ret_ap, Pd.lft_ap, Pd.bnd_ap, Pd.rdv_ap, Pd.bin_ap, Pd.una_ap, Pd.lNil_ap, Pd.lCons_ap, Pd.mTup_ap, Pd.mLst_ap, Pd.asB_ap, Pd.asI_ap, Pd.asTru_ap, Pd.mAnd_ap, Pd.mOr_ap, Pd.mNot_ap, Pd.vAnd_ap, Pd.vOr_ap, Pd.vNot_ap, Pd.mIf_ap, Pd.chn_ap, Pd.sSeq_ap, Pd.sSkip_ap, Pd.sAsg_ap, Pd.setN_if, Pd.nfB_un, Pd.nfB_sh, Pd.nfB_ow, Pd.sAsgH_if, Pd.sRet_ap, Pd.sRetN_ap, Pd.sIf_ap, Pd.sRaise_ap, Pd.sDrop_ap, Pd.sBk_ap, Pd.sCt_ap, Pd.sAug_ap, Pd.sFldS_ap, Pd.hotI_ap, Pd.hotL_ap, Pd.ixh_ap, Pd.hotRead_ap, Pd.sApp_ap, Pd.lenh_ap, Pd.mCut_ap, Pd.mSeq_ap, Pd.mCall_ap, Pd.mCallN_ap, Pd.mMeth_ap, Pd.mMethN_ap, Pd.slf_ap, Pd.mMake_ap, Pd.back_sh, Pd.back_nw, Pd.backN_nw, Pd.backI_mk, Pd.add_ii, Pd.sub_ii, Pd.neg_i, Pd.int_i, Pd.int_b, Pd.lt_ii, Pd.le_ii, Pd.gt_ii, Pd.ge_ii, Pd.isN_non, Pd.isN_int, Pd.isN_tup, Pd.isN_lst, Pd.isN_obj, Pd.notN_non, Pd.notN_tup, Pd.notN_int, Pd.len_lst, Pd.len_tup, Pd.len_scr, Pd.tru_non, Pd.tru_bl, Pd.tru_int, Pd.tru_lst, Pd.tru_tup, Pd.eq_int, Pd.ne_int, List.replicate, List.length_cons, List.length_nil, List.append_nil, List.cons_append, List.nil_append, List.getElem?_cons_zero, List.getElem?_cons_succ, List.set_cons_zero, List.set_cons_succ, List.map_cons, List.map_nil, dz, no_inverse, e_inverse h97 h0, e_ismember])]
    rw [sSeq_nx (e1 := e3) (by simp [e2, e3, kE, Pd.fnS_ap, Pd.fin_ap, Pd.ret_ap, Pd.lft_ap, Pd.bnd_ap, Pd.rdv_ap, Pd.bin_ap, Pd.una_ap, Pd.lNil_ap, Pd.lCons_ap, Pd.mTup_ap, Pd.mLst_ap, Pd.asB_ap, Pd.asI_ap, Pd.asTru_ap, Pd.mAnd_ap, Pd.mOr_ap, Pd.mNot_ap, Pd.vAnd_ap, Pd.vOr_ap, Pd.vNot_ap, Pd.mIf_ap, Pd.chn_ap, Pd.sSeq_ap, Pd.sSkip_ap, Pd.sAsg_ap, Pd.setN_if, Pd.nfB_un, Pd.nfB_sh, Pd.nfB_ow, Pd.sAsgH_if, Pd.sRet_ap, Pd.sRetN_ap, Pd.sIf_ap, Pd.sRaise_ap, Pd.sDrop_ap, Pd.sBk_ap, Pd.sCt_ap, Pd.sAug_ap, Pd.sFldS_ap, Pd.hotI_ap, Pd.hotL_ap, Pd.ixh_ap, Pd.hotRead_ap, Pd.sApp_ap, Pd.lenh_ap, Pd.mCut_ap, Pd.mSeq_ap, Pd.mCall_ap, Pd.mCallN_ap, Pd.mMeth_ap, Pd.mMethN_ap, Pd.slf_ap, Pd.mMake_ap, Pd.back_sh, Pd.back_nw, Pd.backN_nw, Pd.backI_mk, Pd.add_ii, Pd.sub_ii, Pd.neg_i, Pd.int_i, Pd.int_b, Pd.lt_ii, Pd.le_ii, Pd.gt_ii, Pd.ge_ii, Pd.isN_non, Pd.isN_int, Pd.isN_tup, Pd.isN_lst, Pd.isN_obj, Pd.notN_non, Pd.notN_tup, Pd.notN_int, Pd.len_lst, Pd.len_tup, Pd.len_scr, Pd.tru_non, Pd.tru_bl, Pd.tru_int, Pd.tru_lst, Pd.tru_tup, Pd.eq_int, Pd.ne_int, List.replicate, List.length_cons, List.length_nil, List.append_nil, List.cons_append, List.nil_append, List.getElem?_cons_zero, List.getElem?_cons_succ, List.set_cons_zero, List.set_cons_succ, List.map_cons, List.map_nil, m6, x5, x6, m3, pw, hz, n10])]
    simp [e3, kE, Pd.fnS_ap, Pd.fin_ap, Pd.ret_ap, Pd.lft_ap, Pd.bnd_ap, Pd.rdv_ap, Pd.bin_ap, Pd.una_ap, Pd.lNil_ap, Pd.lCons_ap, Pd.mTup_ap, Pd.mLst_ap, Pd.asB_ap, Pd.asI_ap, Pd.asTru_ap, Pd.mAnd_ap, Pd.mOr_ap, Pd.mNot_ap, Pd.vAnd_ap, Pd.vOr_ap, Pd.vNot_ap, Pd.mIf_ap, Pd.chn_ap, Pd.sSeq_ap, Pd.sSkip_ap, Pd.sAsg_ap, Pd.setN_if, Pd.nfB_un, Pd.nfB_sh, Pd.nfB_ow, Pd.sAsgH_if, Pd.sRet_ap, Pd.sRetN_ap, Pd.sIf_ap, Pd.sRaise_ap, Pd.sDrop_ap, Pd.sBk_ap, Pd.sCt_ap, Pd.sAug_ap, Pd.sFldS_ap, Pd.hotI_ap, Pd.hotL_ap, Pd.ixh_ap, Pd.hotRead_ap, Pd.sApp_ap, Pd.lenh_ap, Pd.mCut_ap, Pd.mSeq_ap, Pd.mCall_ap, Pd.mCallN_ap, Pd.mMeth_ap, Pd.mMethN_ap, Pd.slf_ap, Pd.mMake_ap, Pd.back_sh, Pd.back_nw, Pd.backN_nw, Pd.backI_mk, Pd.add_ii, Pd.sub_ii, Pd.neg_i, Pd.int_i, Pd.int_b, Pd.lt_ii, Pd.le_ii, Pd.gt_ii, Pd.ge_ii, Pd.isN_non, Pd.isN_int, Pd.isN_tup, Pd.isN_lst, Pd.isN_obj, Pd.notN_non, Pd.notN_tup, Pd.notN_int, Pd.len_lst, Pd.len_tup, Pd.len_scr, Pd.tru_non, Pd.tru_bl, Pd.tru_int, Pd.tru_lst, Pd.tru_tup, Pd.eq_int, Pd.ne_int, List.replicate, List.length_cons, List.length_nil, List.append_nil, List.cons_append, List.nil_append, List.getElem?_cons_zero, List.getElem?_cons_succ, List.set_cons_zero, List.set_cons_succ, List.map_cons, List.map_nil, no_number, e_numZ, mod_p, same_z r]
def kR (p r : Nat) (ns L : List Int) (s4 s6 : Sl) (i : Nat) (e : En) : Prop := ∃ s5 s7 s8 s9 s10, e = kE p r ns L s4 s5 s6 s7 s8 s9 s10 .un ∧ nfB s5 = true ∧ nfB s7 = true ∧ nfB s8 = true ∧ nfB s9 = true ∧ nfB s10 = true
theorem ixL {L : List Int} {j : Nat} {z : Int} (h : z = j) (hj : j < L.length) : ∃ d, dIx (.lst (L.map .int)) (.int z) = some (.int d) := by
  refine ⟨L[j], ix_nat (by omega) ?_⟩
  have e : z.toNat = j := by omega
  rw [e, List.getElem?_map, List.getElem?_eq_getElem hj] <;> rfl
theorem bad_ix (d : Int) : ∃ v ∈ badD, dIx (.lst badD) (.int (d % 19)) = some v := by
  have i0 : 0 ≤ d % 19 := Int.emod_nonneg _ (by decide)
  have i1 : d % 19 < 19 := Int.emod_lt_of_pos _ (by decide)
  have hl : (d % 19).toNat < badD.length := by show _ < 19; omega
  exact ⟨badD[(d % 19).toNat], List.getElem_mem hl, ix_nat i0 (List.getElem?_eq_getElem hl)⟩
theorem pl (ns L : List Int) (hL : L.length = 40) (hd : back (f__law_draws [.sh (.scr ns), .sh (.int 40)]) = some (.lst (L.map .int))) (hp : ∀ d, dIx (.lst (L.map .int)) (.int 0) = some (.int d) → back (f__law_prime [.sh (.int d), .sh (.int 97)]) = some (.int (p : Int)))
    (hm : backI "Field" (f_Field___init__ [.ow true (.ins "Field" []), .sh (.int (p : Int))]) = some (.obj "Field" (fldF p r))) : ∃ as', f_law [.sh (.scr ns)] = some (.rt (.sh (.bl true)), as') := by
  have h97 := g.le97
  obtain ⟨d0, x0⟩ := ixL (L := L) (j := 0) (z := 0) rfl (by omega)
  obtain ⟨d30, x30⟩ := ixL (L := L) (j := 30) (z := 30) rfl (by omega)
  obtain ⟨d31, x31⟩ := ixL (L := L) (j := 31) (z := 31) rfl (by omega)
  obtain ⟨v1, hv1, y1⟩ := bad_ix d30
  obtain ⟨v2, hv2, y2⟩ := bad_ix d31
  have m30 : dMod (.int d30) (.int 19) = some (.int (d30 % 19)) := dmod_ok (by decide)
  have m31 : dMod (.int d31) (.int 19) = some (.int (d31 % 19)) := dmod_ok (by decide)
  have mpp : dMul (.int (p : Int)) (.int (p : Int)) = some (.int ((p : Int) * p)) := mulOk_r (by omega)
  let M1 : List D := (memL p).map ptD
  let S4 : Sl := .sh (.lst ((sqI p).map .int))
  let S6 : Sl := .ow false (.lst (M1 ++ [.tup [.int 0, .int 0]]))
  obtain ⟨e', z1, s5, s7, s8, s9, s10, rfl, n5, n7, n8, n9, n10⟩ := for_ind (set := setN 7) (m := b1_law) (kR p r ns L S4 S6) (rngD 0 4) (kE p r ns L S4 .un S6 .un .un .un .un .un) 0 ⟨.un, .un, .un, .un, .un, rfl, rfl, rfl, rfl, rfl, rfl⟩ (fun i d e hd hr => by
    obtain ⟨q, rfl⟩ := rngD_get hd
    obtain ⟨t5, t7, t8, t9, t10, rfl, g5, g7, g8, g9, g10⟩ := hr
    obtain ⟨y1, w1⟩ := ixL (L := L) (j := 1 + 6 * i) (z := 1 + 6 * (0 + (i : Int))) (by omega) (by omega)
    obtain ⟨y2, w2⟩ := ixL (L := L) (j := 2 + 6 * i) (z := 2 + 6 * (0 + (i : Int))) (by omega) (by omega)
    obtain ⟨y3, w3⟩ := ixL (L := L) (j := 3 + 6 * i) (z := 3 + 6 * (0 + (i : Int))) (by omega) (by omega)
    obtain ⟨y4, w4⟩ := ixL (L := L) (j := 4 + 6 * i) (z := 4 + 6 * (0 + (i : Int))) (by omega) (by omega)
    obtain ⟨y5, w5⟩ := ixL (L := L) (j := 5 + 6 * i) (z := 5 + 6 * (0 + (i : Int))) (by omega) (by omega)
    obtain ⟨y6, w6⟩ := ixL (L := L) (j := 6 + 6 * i) (z := 6 + 6 * (0 + (i : Int))) (by omega) (by omega)
    obtain ⟨v5, v8, v9, v10, k1, k2, k3, k4, k5⟩ := lb (p := p) (r := r) (ns := ns) (s4 := S4) (s6 := S6) g5 g8 g9 g10 w1 w2 w3 w4 w5 w6
    exact ⟨kE p r ns L S4 t5 S6 (.sh (.int (0 + (i : Int)))) t8 t9 t10 .un, _, by simp [kE, Pd.fnS_ap, Pd.fin_ap, Pd.ret_ap, Pd.lft_ap, Pd.bnd_ap, Pd.rdv_ap, Pd.bin_ap, Pd.una_ap, Pd.lNil_ap, Pd.lCons_ap, Pd.mTup_ap, Pd.mLst_ap, Pd.asB_ap, Pd.asI_ap, Pd.asTru_ap, Pd.mAnd_ap, Pd.mOr_ap, Pd.mNot_ap, Pd.vAnd_ap, Pd.vOr_ap, Pd.vNot_ap, Pd.mIf_ap, Pd.chn_ap, Pd.sSeq_ap, Pd.sSkip_ap, Pd.sAsg_ap, Pd.setN_if, Pd.nfB_un, Pd.nfB_sh, Pd.nfB_ow, Pd.sAsgH_if, Pd.sRet_ap, Pd.sRetN_ap, Pd.sIf_ap, Pd.sRaise_ap, Pd.sDrop_ap, Pd.sBk_ap, Pd.sCt_ap, Pd.sAug_ap, Pd.sFldS_ap, Pd.hotI_ap, Pd.hotL_ap, Pd.ixh_ap, Pd.hotRead_ap, Pd.sApp_ap, Pd.lenh_ap, Pd.mCut_ap, Pd.mSeq_ap, Pd.mCall_ap, Pd.mCallN_ap, Pd.mMeth_ap, Pd.mMethN_ap, Pd.slf_ap, Pd.mMake_ap, Pd.back_sh, Pd.back_nw, Pd.backN_nw, Pd.backI_mk, Pd.add_ii, Pd.sub_ii, Pd.neg_i, Pd.int_i, Pd.int_b, Pd.lt_ii, Pd.le_ii, Pd.gt_ii, Pd.ge_ii, Pd.isN_non, Pd.isN_int, Pd.isN_tup, Pd.isN_lst, Pd.isN_obj, Pd.notN_non, Pd.notN_tup, Pd.notN_int, Pd.len_lst, Pd.len_tup, Pd.len_scr, Pd.tru_non, Pd.tru_bl, Pd.tru_int, Pd.tru_lst, Pd.tru_tup, Pd.eq_int, Pd.ne_int, List.replicate, List.length_cons, List.length_nil, List.append_nil, List.cons_append, List.nil_append, List.getElem?_cons_zero, List.getElem?_cons_succ, List.set_cons_zero, List.set_cons_succ, List.map_cons, List.map_nil, g7], .inl k1, v5, _, v8, v9, v10, rfl, k2, rfl, k3, k4, k5⟩)
  have fr : sFor (mRng1 (Pd.ret (.int 4))) (setN 7) b1_law (kE p r ns L S4 .un S6 .un .un .un .un .un) = some (.nx (kE p r ns L S4 s5 S6 s7 s8 s9 s10 .un)) := z1
  let a0 : En := [.sh (.scr ns), .un, .un, .un, .un, .un, .un, .un, .un, .un, .un, .un, .un]
  let a1 : En := [.sh (.scr ns), .sh (.lst (L.map .int)), .un, .un, .un, .un, .un, .un, .un, .un, .un, .un, .un]
  let a2 : En := [.sh (.scr ns), .sh (.lst (L.map .int)), .sh (.int (p : Int)), .un, .un, .un, .un, .un, .un, .un, .un, .un, .un]
  let a3 : En := kE p r ns L .un .un .un .un .un .un .un .un
  let a4 : En := kE p r ns L S4 .un .un .un .un .un .un .un
  let a5 : En := kE p r ns L S4 .un (.ow false (.lst M1)) .un .un .un .un .un
  let a6 : En := kE p r ns L S4 .un S6 .un .un .un .un .un
  let a7 : En := kE p r ns L S4 s5 S6 s7 s8 s9 s10 .un
  let a8 : En := kE p r ns L S4 s5 S6 s7 s8 s9 s10 (.sh (.lst badD))
  have run : m_law a0 = some (.rt (.sh (.bl true)) a8) := by
    unfold m_law
    rw [sSeq_nx (e1 := a1) (by simp [a0, a1, Pd.fnS_ap, Pd.fin_ap, Pd.ret_ap, Pd.lft_ap, Pd.bnd_ap, Pd.rdv_ap, Pd.bin_ap, Pd.una_ap, Pd.lNil_ap, Pd.lCons_ap, Pd.mTup_ap, Pd.mLst_ap, Pd.asB_ap, Pd.asI_ap, Pd.asTru_ap, Pd.mAnd_ap, Pd.mOr_ap, Pd.mNot_ap, Pd.vAnd_ap, Pd.vOr_ap, Pd.vNot_ap, Pd.mIf_ap, Pd.chn_ap, Pd.sSeq_ap, Pd.sSkip_ap, Pd.sAsg_ap, Pd.setN_if, Pd.nfB_un, Pd.nfB_sh, Pd.nfB_ow, Pd.sAsgH_if, Pd.sRet_ap, Pd.sRetN_ap, Pd.sIf_ap, Pd.sRaise_ap, Pd.sDrop_ap, Pd.sBk_ap, Pd.sCt_ap, Pd.sAug_ap, Pd.sFldS_ap, Pd.hotI_ap, Pd.hotL_ap, Pd.ixh_ap, Pd.hotRead_ap, Pd.sApp_ap, Pd.lenh_ap, Pd.mCut_ap, Pd.mSeq_ap, Pd.mCall_ap, Pd.mCallN_ap, Pd.mMeth_ap, Pd.mMethN_ap, Pd.slf_ap, Pd.mMake_ap, Pd.back_sh, Pd.back_nw, Pd.backN_nw, Pd.backI_mk, Pd.add_ii, Pd.sub_ii, Pd.neg_i, Pd.int_i, Pd.int_b, Pd.lt_ii, Pd.le_ii, Pd.gt_ii, Pd.ge_ii, Pd.isN_non, Pd.isN_int, Pd.isN_tup, Pd.isN_lst, Pd.isN_obj, Pd.notN_non, Pd.notN_tup, Pd.notN_int, Pd.len_lst, Pd.len_tup, Pd.len_scr, Pd.tru_non, Pd.tru_bl, Pd.tru_int, Pd.tru_lst, Pd.tru_tup, Pd.eq_int, Pd.ne_int, List.replicate, List.length_cons, List.length_nil, List.append_nil, List.cons_append, List.nil_append, List.getElem?_cons_zero, List.getElem?_cons_succ, List.set_cons_zero, List.set_cons_succ, List.map_cons, List.map_nil, hd])]
    rw [sSeq_nx (e1 := a2) (by simp [a1, a2, Pd.fnS_ap, Pd.fin_ap, Pd.ret_ap, Pd.lft_ap, Pd.bnd_ap, Pd.rdv_ap, Pd.bin_ap, Pd.una_ap, Pd.lNil_ap, Pd.lCons_ap, Pd.mTup_ap, Pd.mLst_ap, Pd.asB_ap, Pd.asI_ap, Pd.asTru_ap, Pd.mAnd_ap, Pd.mOr_ap, Pd.mNot_ap, Pd.vAnd_ap, Pd.vOr_ap, Pd.vNot_ap, Pd.mIf_ap, Pd.chn_ap, Pd.sSeq_ap, Pd.sSkip_ap, Pd.sAsg_ap, Pd.setN_if, Pd.nfB_un, Pd.nfB_sh, Pd.nfB_ow, Pd.sAsgH_if, Pd.sRet_ap, Pd.sRetN_ap, Pd.sIf_ap, Pd.sRaise_ap, Pd.sDrop_ap, Pd.sBk_ap, Pd.sCt_ap, Pd.sAug_ap, Pd.sFldS_ap, Pd.hotI_ap, Pd.hotL_ap, Pd.ixh_ap, Pd.hotRead_ap, Pd.sApp_ap, Pd.lenh_ap, Pd.mCut_ap, Pd.mSeq_ap, Pd.mCall_ap, Pd.mCallN_ap, Pd.mMeth_ap, Pd.mMethN_ap, Pd.slf_ap, Pd.mMake_ap, Pd.back_sh, Pd.back_nw, Pd.backN_nw, Pd.backI_mk, Pd.add_ii, Pd.sub_ii, Pd.neg_i, Pd.int_i, Pd.int_b, Pd.lt_ii, Pd.le_ii, Pd.gt_ii, Pd.ge_ii, Pd.isN_non, Pd.isN_int, Pd.isN_tup, Pd.isN_lst, Pd.isN_obj, Pd.notN_non, Pd.notN_tup, Pd.notN_int, Pd.len_lst, Pd.len_tup, Pd.len_scr, Pd.tru_non, Pd.tru_bl, Pd.tru_int, Pd.tru_lst, Pd.tru_tup, Pd.eq_int, Pd.ne_int, List.replicate, List.length_cons, List.length_nil, List.append_nil, List.cons_append, List.nil_append, List.getElem?_cons_zero, List.getElem?_cons_succ, List.set_cons_zero, List.set_cons_succ, List.map_cons, List.map_nil, x0, hp d0 x0])]
    rw [sSeq_nx (e1 := a3) (by simp [a2, a3, kE, Pd.fnS_ap, Pd.fin_ap, Pd.ret_ap, Pd.lft_ap, Pd.bnd_ap, Pd.rdv_ap, Pd.bin_ap, Pd.una_ap, Pd.lNil_ap, Pd.lCons_ap, Pd.mTup_ap, Pd.mLst_ap, Pd.asB_ap, Pd.asI_ap, Pd.asTru_ap, Pd.mAnd_ap, Pd.mOr_ap, Pd.mNot_ap, Pd.vAnd_ap, Pd.vOr_ap, Pd.vNot_ap, Pd.mIf_ap, Pd.chn_ap, Pd.sSeq_ap, Pd.sSkip_ap, Pd.sAsg_ap, Pd.setN_if, Pd.nfB_un, Pd.nfB_sh, Pd.nfB_ow, Pd.sAsgH_if, Pd.sRet_ap, Pd.sRetN_ap, Pd.sIf_ap, Pd.sRaise_ap, Pd.sDrop_ap, Pd.sBk_ap, Pd.sCt_ap, Pd.sAug_ap, Pd.sFldS_ap, Pd.hotI_ap, Pd.hotL_ap, Pd.ixh_ap, Pd.hotRead_ap, Pd.sApp_ap, Pd.lenh_ap, Pd.mCut_ap, Pd.mSeq_ap, Pd.mCall_ap, Pd.mCallN_ap, Pd.mMeth_ap, Pd.mMethN_ap, Pd.slf_ap, Pd.mMake_ap, Pd.back_sh, Pd.back_nw, Pd.backN_nw, Pd.backI_mk, Pd.add_ii, Pd.sub_ii, Pd.neg_i, Pd.int_i, Pd.int_b, Pd.lt_ii, Pd.le_ii, Pd.gt_ii, Pd.ge_ii, Pd.isN_non, Pd.isN_int, Pd.isN_tup, Pd.isN_lst, Pd.isN_obj, Pd.notN_non, Pd.notN_tup, Pd.notN_int, Pd.len_lst, Pd.len_tup, Pd.len_scr, Pd.tru_non, Pd.tru_bl, Pd.tru_int, Pd.tru_lst, Pd.tru_tup, Pd.eq_int, Pd.ne_int, List.replicate, List.length_cons, List.length_nil, List.append_nil, List.cons_append, List.nil_append, List.getElem?_cons_zero, List.getElem?_cons_succ, List.set_cons_zero, List.set_cons_succ, List.map_cons, List.map_nil, hm])]
    rw [sSeq_nx (e1 := a4) (by rw [sAsg_ap, mLst_ap, sq_run]; rfl)]
    have t5 : bin dIx (mLst (lcS (mRng2 (Pd.ret (.int 2)) (rdv 2)) [5] (setN 5) (asB (bin (dIn true) (rdv 5) (rdv 4))) (rdv 5))) (Pd.ret (.int 0)) a4 = some (.int (r : Int), a4) := by
      simp only [bin_ap, mLst_ap, a4, S4, fl_run, ret_ap, FL_0 (r := r)]
    rw [sSeq_nx (e1 := a4) (by
      have u1 : bin dNe (una (dFld "Field" "p") (rdv 3)) (rdv 2) a4 = some (.bl false, a4) := by simp [a4, kE, Pd.fnS_ap, Pd.fin_ap, Pd.ret_ap, Pd.lft_ap, Pd.bnd_ap, Pd.rdv_ap, Pd.bin_ap, Pd.una_ap, Pd.lNil_ap, Pd.lCons_ap, Pd.mTup_ap, Pd.mLst_ap, Pd.asB_ap, Pd.asI_ap, Pd.asTru_ap, Pd.mAnd_ap, Pd.mOr_ap, Pd.mNot_ap, Pd.vAnd_ap, Pd.vOr_ap, Pd.vNot_ap, Pd.mIf_ap, Pd.chn_ap, Pd.sSeq_ap, Pd.sSkip_ap, Pd.sAsg_ap, Pd.setN_if, Pd.nfB_un, Pd.nfB_sh, Pd.nfB_ow, Pd.sAsgH_if, Pd.sRet_ap, Pd.sRetN_ap, Pd.sIf_ap, Pd.sRaise_ap, Pd.sDrop_ap, Pd.sBk_ap, Pd.sCt_ap, Pd.sAug_ap, Pd.sFldS_ap, Pd.hotI_ap, Pd.hotL_ap, Pd.ixh_ap, Pd.hotRead_ap, Pd.sApp_ap, Pd.lenh_ap, Pd.mCut_ap, Pd.mSeq_ap, Pd.mCall_ap, Pd.mCallN_ap, Pd.mMeth_ap, Pd.mMethN_ap, Pd.slf_ap, Pd.mMake_ap, Pd.back_sh, Pd.back_nw, Pd.backN_nw, Pd.backI_mk, Pd.add_ii, Pd.sub_ii, Pd.neg_i, Pd.int_i, Pd.int_b, Pd.lt_ii, Pd.le_ii, Pd.gt_ii, Pd.ge_ii, Pd.isN_non, Pd.isN_int, Pd.isN_tup, Pd.isN_lst, Pd.isN_obj, Pd.notN_non, Pd.notN_tup, Pd.notN_int, Pd.len_lst, Pd.len_tup, Pd.len_scr, Pd.tru_non, Pd.tru_bl, Pd.tru_int, Pd.tru_lst, Pd.tru_tup, Pd.eq_int, Pd.ne_int, List.replicate, List.length_cons, List.length_nil, List.append_nil, List.cons_append, List.nil_append, List.getElem?_cons_zero, List.getElem?_cons_succ, List.set_cons_zero, List.set_cons_succ, List.map_cons, List.map_nil, fld_p]
      have u2 : una (dFld "Field" "rest") (rdv 3) a4 = some (.int (r : Int), a4) := by simp [a4, kE, Pd.fnS_ap, Pd.fin_ap, Pd.ret_ap, Pd.lft_ap, Pd.bnd_ap, Pd.rdv_ap, Pd.bin_ap, Pd.una_ap, Pd.lNil_ap, Pd.lCons_ap, Pd.mTup_ap, Pd.mLst_ap, Pd.asB_ap, Pd.asI_ap, Pd.asTru_ap, Pd.mAnd_ap, Pd.mOr_ap, Pd.mNot_ap, Pd.vAnd_ap, Pd.vOr_ap, Pd.vNot_ap, Pd.mIf_ap, Pd.chn_ap, Pd.sSeq_ap, Pd.sSkip_ap, Pd.sAsg_ap, Pd.setN_if, Pd.nfB_un, Pd.nfB_sh, Pd.nfB_ow, Pd.sAsgH_if, Pd.sRet_ap, Pd.sRetN_ap, Pd.sIf_ap, Pd.sRaise_ap, Pd.sDrop_ap, Pd.sBk_ap, Pd.sCt_ap, Pd.sAug_ap, Pd.sFldS_ap, Pd.hotI_ap, Pd.hotL_ap, Pd.ixh_ap, Pd.hotRead_ap, Pd.sApp_ap, Pd.lenh_ap, Pd.mCut_ap, Pd.mSeq_ap, Pd.mCall_ap, Pd.mCallN_ap, Pd.mMeth_ap, Pd.mMethN_ap, Pd.slf_ap, Pd.mMake_ap, Pd.back_sh, Pd.back_nw, Pd.backN_nw, Pd.backI_mk, Pd.add_ii, Pd.sub_ii, Pd.neg_i, Pd.int_i, Pd.int_b, Pd.lt_ii, Pd.le_ii, Pd.gt_ii, Pd.ge_ii, Pd.isN_non, Pd.isN_int, Pd.isN_tup, Pd.isN_lst, Pd.isN_obj, Pd.notN_non, Pd.notN_tup, Pd.notN_int, Pd.len_lst, Pd.len_tup, Pd.len_scr, Pd.tru_non, Pd.tru_bl, Pd.tru_int, Pd.tru_lst, Pd.tru_tup, Pd.eq_int, Pd.ne_int, List.replicate, List.length_cons, List.length_nil, List.append_nil, List.cons_append, List.nil_append, List.getElem?_cons_zero, List.getElem?_cons_succ, List.set_cons_zero, List.set_cons_succ, List.map_cons, List.map_nil, fld_rest]
      have u3 : bin dNe (una (dFld "Field" "rest") (rdv 3)) (bin dIx (mLst (lcS (mRng2 (Pd.ret (.int 2)) (rdv 2)) [5] (setN 5) (asB (bin (dIn true) (rdv 5) (rdv 4))) (rdv 5))) (Pd.ret (.int 0))) a4 = some (.bl false, a4) := by
        rw [bin_ap, u2]
        simp only [t5, ne_int, decide_true, Bool.not_true]
      have u4 : una (dIsi "bool") (una (dFld "Field" "rest") (rdv 3)) a4 = some (.bl false, a4) := by
        rw [una_ap, u2]
        simp only [isi_bi]
      simp only [sIf_ap, mOr_ap, asB_ap, u1, u3, u4]
      rfl)]
    rw [sSeq_nx (e1 := a5) (by simp [a4, a5, kE, M1, Pd.fnS_ap, Pd.fin_ap, Pd.ret_ap, Pd.lft_ap, Pd.bnd_ap, Pd.rdv_ap, Pd.bin_ap, Pd.una_ap, Pd.lNil_ap, Pd.lCons_ap, Pd.mTup_ap, Pd.mLst_ap, Pd.asB_ap, Pd.asI_ap, Pd.asTru_ap, Pd.mAnd_ap, Pd.mOr_ap, Pd.mNot_ap, Pd.vAnd_ap, Pd.vOr_ap, Pd.vNot_ap, Pd.mIf_ap, Pd.chn_ap, Pd.sSeq_ap, Pd.sSkip_ap, Pd.sAsg_ap, Pd.setN_if, Pd.nfB_un, Pd.nfB_sh, Pd.nfB_ow, Pd.sAsgH_if, Pd.sRet_ap, Pd.sRetN_ap, Pd.sIf_ap, Pd.sRaise_ap, Pd.sDrop_ap, Pd.sBk_ap, Pd.sCt_ap, Pd.sAug_ap, Pd.sFldS_ap, Pd.hotI_ap, Pd.hotL_ap, Pd.ixh_ap, Pd.hotRead_ap, Pd.sApp_ap, Pd.lenh_ap, Pd.mCut_ap, Pd.mSeq_ap, Pd.mCall_ap, Pd.mCallN_ap, Pd.mMeth_ap, Pd.mMethN_ap, Pd.slf_ap, Pd.mMake_ap, Pd.back_sh, Pd.back_nw, Pd.backN_nw, Pd.backI_mk, Pd.add_ii, Pd.sub_ii, Pd.neg_i, Pd.int_i, Pd.int_b, Pd.lt_ii, Pd.le_ii, Pd.gt_ii, Pd.ge_ii, Pd.isN_non, Pd.isN_int, Pd.isN_tup, Pd.isN_lst, Pd.isN_obj, Pd.notN_non, Pd.notN_tup, Pd.notN_int, Pd.len_lst, Pd.len_tup, Pd.len_scr, Pd.tru_non, Pd.tru_bl, Pd.tru_int, Pd.tru_lst, Pd.tru_tup, Pd.eq_int, Pd.ne_int, List.replicate, List.length_cons, List.length_nil, List.append_nil, List.cons_append, List.nil_append, List.getElem?_cons_zero, List.getElem?_cons_succ, List.set_cons_zero, List.set_cons_succ, List.map_cons, List.map_nil, no_members, e_membersN])]
    rw [sSeq_nx (e1 := a5) (by
      have c1 : cmph 6 dNe (mCall f__law_members (lCons (rdv 2) lNil)) a5 = some (.bl false, a5) := by
        unfold cmph
        simp [a5, kE, M1, Pd.fnS_ap, Pd.fin_ap, Pd.ret_ap, Pd.lft_ap, Pd.bnd_ap, Pd.rdv_ap, Pd.bin_ap, Pd.una_ap, Pd.lNil_ap, Pd.lCons_ap, Pd.mTup_ap, Pd.mLst_ap, Pd.asB_ap, Pd.asI_ap, Pd.asTru_ap, Pd.mAnd_ap, Pd.mOr_ap, Pd.mNot_ap, Pd.vAnd_ap, Pd.vOr_ap, Pd.vNot_ap, Pd.mIf_ap, Pd.chn_ap, Pd.sSeq_ap, Pd.sSkip_ap, Pd.sAsg_ap, Pd.setN_if, Pd.nfB_un, Pd.nfB_sh, Pd.nfB_ow, Pd.sAsgH_if, Pd.sRet_ap, Pd.sRetN_ap, Pd.sIf_ap, Pd.sRaise_ap, Pd.sDrop_ap, Pd.sBk_ap, Pd.sCt_ap, Pd.sAug_ap, Pd.sFldS_ap, Pd.hotI_ap, Pd.hotL_ap, Pd.ixh_ap, Pd.hotRead_ap, Pd.sApp_ap, Pd.lenh_ap, Pd.mCut_ap, Pd.mSeq_ap, Pd.mCall_ap, Pd.mCallN_ap, Pd.mMeth_ap, Pd.mMethN_ap, Pd.slf_ap, Pd.mMake_ap, Pd.back_sh, Pd.back_nw, Pd.backN_nw, Pd.backI_mk, Pd.add_ii, Pd.sub_ii, Pd.neg_i, Pd.int_i, Pd.int_b, Pd.lt_ii, Pd.le_ii, Pd.gt_ii, Pd.ge_ii, Pd.isN_non, Pd.isN_int, Pd.isN_tup, Pd.isN_lst, Pd.isN_obj, Pd.notN_non, Pd.notN_tup, Pd.notN_int, Pd.len_lst, Pd.len_tup, Pd.len_scr, Pd.tru_non, Pd.tru_bl, Pd.tru_int, Pd.tru_lst, Pd.tru_tup, Pd.eq_int, Pd.ne_int, List.replicate, List.length_cons, List.length_nil, List.append_nil, List.cons_append, List.nil_append, List.getElem?_cons_zero, List.getElem?_cons_succ, List.set_cons_zero, List.set_cons_succ, List.map_cons, List.map_nil, e_lmembers h97, ne_pts]
      have c2 : isih 6 "list" a5 = some (.bl true, a5) := by rfl
      simp only [sIf_ap, mOr_ap, asB_ap, mNot_ap, c1, c2]
      rfl)]
    have hlen : (memL p).length < 1000000 := by
      rw [mem_len]
      have := Nat.mul_le_mul h97 h97
      omega
    rw [sSeq_nx (e1 := a6) (by simp [a5, a6, S6, kE, M1, Pd.fnS_ap, Pd.fin_ap, Pd.ret_ap, Pd.lft_ap, Pd.bnd_ap, Pd.rdv_ap, Pd.bin_ap, Pd.una_ap, Pd.lNil_ap, Pd.lCons_ap, Pd.mTup_ap, Pd.mLst_ap, Pd.asB_ap, Pd.asI_ap, Pd.asTru_ap, Pd.mAnd_ap, Pd.mOr_ap, Pd.mNot_ap, Pd.vAnd_ap, Pd.vOr_ap, Pd.vNot_ap, Pd.mIf_ap, Pd.chn_ap, Pd.sSeq_ap, Pd.sSkip_ap, Pd.sAsg_ap, Pd.setN_if, Pd.nfB_un, Pd.nfB_sh, Pd.nfB_ow, Pd.sAsgH_if, Pd.sRet_ap, Pd.sRetN_ap, Pd.sIf_ap, Pd.sRaise_ap, Pd.sDrop_ap, Pd.sBk_ap, Pd.sCt_ap, Pd.sAug_ap, Pd.sFldS_ap, Pd.hotI_ap, Pd.hotL_ap, Pd.ixh_ap, Pd.hotRead_ap, Pd.sApp_ap, Pd.lenh_ap, Pd.mCut_ap, Pd.mSeq_ap, Pd.mCall_ap, Pd.mCallN_ap, Pd.mMeth_ap, Pd.mMethN_ap, Pd.slf_ap, Pd.mMake_ap, Pd.back_sh, Pd.back_nw, Pd.backN_nw, Pd.backI_mk, Pd.add_ii, Pd.sub_ii, Pd.neg_i, Pd.int_i, Pd.int_b, Pd.lt_ii, Pd.le_ii, Pd.gt_ii, Pd.ge_ii, Pd.isN_non, Pd.isN_int, Pd.isN_tup, Pd.isN_lst, Pd.isN_obj, Pd.notN_non, Pd.notN_tup, Pd.notN_int, Pd.len_lst, Pd.len_tup, Pd.len_scr, Pd.tru_non, Pd.tru_bl, Pd.tru_int, Pd.tru_lst, Pd.tru_tup, Pd.eq_int, Pd.ne_int, List.replicate, List.length_cons, List.length_nil, List.append_nil, List.cons_append, List.nil_append, List.getElem?_cons_zero, List.getElem?_cons_succ, List.set_cons_zero, List.set_cons_succ, List.map_cons, List.map_nil, hlen])]
    rw [sSeq_nx (e1 := a6) (by simp [a6, kE, Pd.fnS_ap, Pd.fin_ap, Pd.ret_ap, Pd.lft_ap, Pd.bnd_ap, Pd.rdv_ap, Pd.bin_ap, Pd.una_ap, Pd.lNil_ap, Pd.lCons_ap, Pd.mTup_ap, Pd.mLst_ap, Pd.asB_ap, Pd.asI_ap, Pd.asTru_ap, Pd.mAnd_ap, Pd.mOr_ap, Pd.mNot_ap, Pd.vAnd_ap, Pd.vOr_ap, Pd.vNot_ap, Pd.mIf_ap, Pd.chn_ap, Pd.sSeq_ap, Pd.sSkip_ap, Pd.sAsg_ap, Pd.setN_if, Pd.nfB_un, Pd.nfB_sh, Pd.nfB_ow, Pd.sAsgH_if, Pd.sRet_ap, Pd.sRetN_ap, Pd.sIf_ap, Pd.sRaise_ap, Pd.sDrop_ap, Pd.sBk_ap, Pd.sCt_ap, Pd.sAug_ap, Pd.sFldS_ap, Pd.hotI_ap, Pd.hotL_ap, Pd.ixh_ap, Pd.hotRead_ap, Pd.sApp_ap, Pd.lenh_ap, Pd.mCut_ap, Pd.mSeq_ap, Pd.mCall_ap, Pd.mCallN_ap, Pd.mMeth_ap, Pd.mMethN_ap, Pd.slf_ap, Pd.mMake_ap, Pd.back_sh, Pd.back_nw, Pd.backN_nw, Pd.backI_mk, Pd.add_ii, Pd.sub_ii, Pd.neg_i, Pd.int_i, Pd.int_b, Pd.lt_ii, Pd.le_ii, Pd.gt_ii, Pd.ge_ii, Pd.isN_non, Pd.isN_int, Pd.isN_tup, Pd.isN_lst, Pd.isN_obj, Pd.notN_non, Pd.notN_tup, Pd.notN_int, Pd.len_lst, Pd.len_tup, Pd.len_scr, Pd.tru_non, Pd.tru_bl, Pd.tru_int, Pd.tru_lst, Pd.tru_tup, Pd.eq_int, Pd.ne_int, List.replicate, List.length_cons, List.length_nil, List.append_nil, List.cons_append, List.nil_append, List.getElem?_cons_zero, List.getElem?_cons_succ, List.set_cons_zero, List.set_cons_succ, List.map_cons, List.map_nil, no_members, e_members, mem_len, mpp, fld_rest, e_rest (r := r)])]
    rw [sSeq_nx (e1 := a7) fr]
    rw [sSeq_nx (e1 := a8) (by rfl)]
    simp [a8, kE, Pd.fnS_ap, Pd.fin_ap, Pd.ret_ap, Pd.lft_ap, Pd.bnd_ap, Pd.rdv_ap, Pd.bin_ap, Pd.una_ap, Pd.lNil_ap, Pd.lCons_ap, Pd.mTup_ap, Pd.mLst_ap, Pd.asB_ap, Pd.asI_ap, Pd.asTru_ap, Pd.mAnd_ap, Pd.mOr_ap, Pd.mNot_ap, Pd.vAnd_ap, Pd.vOr_ap, Pd.vNot_ap, Pd.mIf_ap, Pd.chn_ap, Pd.sSeq_ap, Pd.sSkip_ap, Pd.sAsg_ap, Pd.setN_if, Pd.nfB_un, Pd.nfB_sh, Pd.nfB_ow, Pd.sAsgH_if, Pd.sRet_ap, Pd.sRetN_ap, Pd.sIf_ap, Pd.sRaise_ap, Pd.sDrop_ap, Pd.sBk_ap, Pd.sCt_ap, Pd.sAug_ap, Pd.sFldS_ap, Pd.hotI_ap, Pd.hotL_ap, Pd.ixh_ap, Pd.hotRead_ap, Pd.sApp_ap, Pd.lenh_ap, Pd.mCut_ap, Pd.mSeq_ap, Pd.mCall_ap, Pd.mCallN_ap, Pd.mMeth_ap, Pd.mMethN_ap, Pd.slf_ap, Pd.mMake_ap, Pd.back_sh, Pd.back_nw, Pd.backN_nw, Pd.backI_mk, Pd.add_ii, Pd.sub_ii, Pd.neg_i, Pd.int_i, Pd.int_b, Pd.lt_ii, Pd.le_ii, Pd.gt_ii, Pd.ge_ii, Pd.isN_non, Pd.isN_int, Pd.isN_tup, Pd.isN_lst, Pd.isN_obj, Pd.notN_non, Pd.notN_tup, Pd.notN_int, Pd.len_lst, Pd.len_tup, Pd.len_scr, Pd.tru_non, Pd.tru_bl, Pd.tru_int, Pd.tru_lst, Pd.tru_tup, Pd.eq_int, Pd.ne_int, List.replicate, List.length_cons, List.length_nil, List.append_nil, List.cons_append, List.nil_append, List.getElem?_cons_zero, List.getElem?_cons_succ, List.set_cons_zero, List.set_cons_succ, List.map_cons, List.map_nil, e_noinv, x30, x31, show dLen (.lst badD) = some (.int 19) from rfl, m30, m31, y1, y2, e_refused hv1, e_refused hv2]
  refine ⟨outs [.sh (.scr ns)] a8, ?_⟩
  unfold f_law
  rw [fnS_ap]
  show (match m_law a0 with | some (.nx e) => fin _ (.rt (.sh .non)) e | some (.rt r e) => fin _ (.rt r) e | some (.ex c e) => fin _ (.ex c) e | _ => none) = _
  rw [run]
  rfl
end
theorem pure_law (ns : List Int) (h : ns.length ≤ 63) : ∃ as', f_law [.sh (.scr ns)] = some (.rt (.sh (.bl true)), as') := by
  obtain ⟨L, h1, h2, h3⟩ := e_draws ns 40 (by decide)
  obtain ⟨d0, x0⟩ := ixL (L := L) (j := 0) (z := 0) rfl (by omega)
  obtain ⟨x, hx, hp⟩ := e_prime d0
  haveI := good_of hx
  haveI : NeZero x.1 := (good_of hx).toGood.ne
  exact pl (p := x.1) (r := x.2) ns L h2 h1 (fun d hd => by
    rw [x0] at hd
    cases hd
    exact hp) (e_make hx)
end Lk66
open PySem PySem.W PyProof.Rows
set_option maxHeartbeats 0 in
theorem PySem.Challenge.cw_hecate_k66_the_field_holds : PySem.Challenge.rw_hecate_k66_the_field.Holds := by
  exact Lk66.final Lk66.pure_law
