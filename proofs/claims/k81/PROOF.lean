import PyProof.Rows.All
import Wide.All
import OpenK.AllK
import Wide.FinOn
import HandS.ForMost
import HandS.IsInst
import HandS.SortInts
import HandS.Strs
import KE.DataEq
import HandS.Wide
import HandS.TupAny
import HandS.Small
import KE.KExcSuper
import HandS.ExcInit
import HandS.ExcSuper
import HandS.Defaults
import HandS.ExcOwn
import HandS.ExcField
import HandS.WordsExc
import HandS.Gcd
import HandS.Style
import HandS.More
import HandS.TryOnly
import HandS.Text
import HandS.Iter
import PySem.Challenge.RW_axlewire_k81_whole_readers_of_guarded_me
set_option Elab.async false
set_option linter.all false
set_option maxRecDepth 100000
set_option maxHeartbeats 4000000
/-! A layer of plain data over the hand layer: values are trees (D), what is changed in place stands in a numbered store (MM). -/
namespace AX
open PySem L2

inductive D where
  | non | bl (b : Bool) | int (i : Int) | str (x : Str) | lst (xs : List D) | tup (xs : List D) | loc (n : Nat) | ty (n : String) | scr (xs : List D) | exn (a : Addr) | dct (ks : List Key) (xs : List D)
inductive MO where
  | gone | lst (xs : List D) | dic (kvs : List (Key × D)) | ins (C : Addr) (fs : List (Str × D)) | fdic (od : Obj) (ks : List (Key × V)) (kvs : List (Key × D))
abbrev DEnv := List (Option D)
abbrev MM := List MO
/-- what stands for good, and where the store's objects stand -/
structure G where
  F : Hp
  as : List Addr
structure Gr (g g' : G) : Prop where
  f : Same g.F g'.F
  p : ∃ l, g'.as = g.as ++ l
theorem Gr.refl (g : G) : Gr g g := ⟨Same.refl _, [], (List.append_nil _).symm⟩
theorem Gr.trans {a b c : G} (x : Gr a b) (y : Gr b c) : Gr a c := by
  obtain ⟨l, e⟩ := x.p
  obtain ⟨m, q⟩ := y.p
  exact ⟨x.f.trans y.f, l ++ m, by rw [q, e, List.append_assoc]⟩
theorem Gr.at {g g' : G} (x : Gr g g') {n : Nat} {a : Addr} (h : g.as[n]? = some a) : g'.as[n]? = some a := by
  obtain ⟨l, e⟩ := x.p
  rw [e, List.getElem?_append_left (List.getElem?_eq_some_iff.mp h).1]
  exact h
theorem same_rd {H H' : Hp} {a : Addr} {u : HO} (e : Same H H') (h : Rd H a u) : Rd H' a u := by
  rcases h with h | ⟨o, h⟩
  · exact .inl (e _ _ h)
  · exact .inr ⟨o, e _ _ h⟩
theorem same_t {K : PySem.W.Frag} {H H' : Hp} {a : Addr} {xs : List V} (e : Same H H') (h : SqT K H a xs) : SqT K H' a xs := by
  rcases h with (h | ⟨o, h⟩) | h
  · exact .inl (.inl (e _ _ h))
  · exact .inl (.inr ⟨o, e _ _ h⟩)
  · exact .inr h

/-- g' is further than g: what stood outside of the store stands, what the store has more was free -/
structure Gx (g : G) (H : Hp) (g' : G) (H' : Hp) : Prop where
  gr : Gr g g'
  keep : ∀ a o, a ∉ g.as → H a = some o → H' a = some o
  new : ∀ a ∈ g'.as, a ∈ g.as ∨ H a = none
  newF : ∀ a, g.F a = none → g'.F a = none ∨ a ∈ g.as ∨ H a = none
theorem Gx.refl (g : G) (H : Hp) : Gx g H g H := ⟨Gr.refl g, fun _ _ _ h => h, fun _ h => .inl h, fun _ h => .inl h⟩
theorem Gx.trans {a b c : G} {H H1 H2 : Hp} (x : Gx a H b H1) (y : Gx b H1 c H2) : Gx a H c H2 := by
  refine ⟨x.gr.trans y.gr, fun p o hp h => y.keep p o (fun q => ?_) (x.keep p o hp h), fun p hp => ?_, fun p hp => ?_⟩
  · rcases x.new p q with z | z
    · exact hp z
    · rw [z] at h
      cases h
  · rcases y.new p hp with z | z
    · exact x.new p z
    · by_cases q : p ∈ a.as
      · exact .inl q
      · right
        cases e : H p with
        | none => rfl
        | some o =>
          rw [x.keep p o q e] at z
          cases z
  · rcases x.newF p hp with z | z | z
    · rcases y.newF p z with z | z | z
      · exact .inl z
      · exact .inr (x.new p z)
      · by_cases q : p ∈ a.as
        · exact .inr (.inl q)
        · right; right
          cases e : H p with
          | none => rfl
          | some o =>
            rw [x.keep p o q e] at z
            cases z
    · exact .inr (.inl z)
    · exact .inr (.inr z)
instance {g g' : G} {H H' : Hp} : CoeOut (Gx g H g' H') (Gr g g') := ⟨Gx.gr⟩
theorem Gx.same {g g' : G} {H H' H2 : Hp} (x : Gx g H g' H') (s : Same H' H2) : Gx g H g' H2 := ⟨x.gr, fun a o h e => s _ _ (x.keep a o h e), x.new, x.newF⟩
/-- the written part's facts, and from where on -/
structure KB where
  k : PySem.W.Frag
  g0 : G
  H0 : Hp
instance : Coe KB PySem.W.Frag := ⟨KB.k⟩
mutual
inductive RelD (K : PySem.W.Frag) (g : G) : D → V → Prop where
  | non : RelD K g .non .non
  | bl (b : Bool) : RelD K g (.bl b) (.bl b)
  | int (i : Int) : RelD K g (.int i) (.int i)
  | str (x : Str) : RelD K g (.str x) (.str x)
  | lst {p : Addr} {vs : List V} {ds : List D} (h : Rd g.F p (.lst vs)) (r : RelL K g ds vs) : RelD K g (.lst ds) (.ref p)
  | tup {p : Addr} {vs : List V} {ds : List D} (h : SqT K g.F p vs) (r : RelL K g ds vs) : RelD K g (.tup ds) (.ref p)
  | loc {n : Nat} {p : Addr} (h : g.as[n]? = some p) : RelD K g (.loc n) (.ref p)
  | ty (n : String) : RelD K g (.ty n) (.ty n)
  | scr {p : Addr} {vs : List V} {ds : List D} (h : SqL K g.F p vs) (r : RelL K g ds vs) : RelD K g (.scr ds) (.ref p)
  | exn (a : Addr) : RelD K g (.exn a) (.ref a)
  | dct {p : Addr} {ks : List Key} {vs : List V} {ds : List D} (h : Rd g.F p (.dK (ks.zip vs))) (hl : ks.length = vs.length) (r : RelL K g ds vs) : RelD K g (.dct ks ds) (.ref p)
inductive RelL (K : PySem.W.Frag) (g : G) : List D → List V → Prop where
  | nil : RelL K g [] []
  | cons {d : D} {v : V} {ds : List D} {vs : List V} (h : RelD K g d v) (r : RelL K g ds vs) : RelL K g (d :: ds) (v :: vs)
end
mutual
theorem RelD.mono {K : PySem.W.Frag} {g g' : G} (x : Gr g g') : ∀ {d : D} {v : V}, RelD K g d v → RelD K g' d v
  | _, _, .non => .non
  | _, _, .bl b => .bl b
  | _, _, .int i => .int i
  | _, _, .str i => .str i
  | _, _, .lst h r => .lst (same_rd x.f h) (RelL.mono x r)
  | _, _, .tup h r => .tup (same_t x.f h) (RelL.mono x r)
  | _, _, .loc h => .loc (x.at h)
  | _, _, .ty n => .ty n
  | _, _, .scr h r => .scr (x.f.seq h) (RelL.mono x r)
  | _, _, .exn a => .exn a
  | _, _, .dct h hl r => .dct (same_rd x.f h) hl (RelL.mono x r)
theorem RelL.mono {K : PySem.W.Frag} {g g' : G} (x : Gr g g') : ∀ {d : List D} {v : List V}, RelL K g d v → RelL K g' d v
  | _, _, .nil => .nil
  | _, _, .cons h r => .cons (RelD.mono x h) (RelL.mono x r)
end
section
variable {K : PySem.W.Frag} {g g' : G}
theorem RelL.len : ∀ {ds : List D} {vs : List V}, RelL K g ds vs → ds.length = vs.length
  | _, _, .nil => rfl
  | _, _, .cons _ r => by rw [List.length_cons, List.length_cons, r.len]
theorem RelL.get : ∀ {ds : List D} {vs : List V} {i : Nat} {v : V}, RelL K g ds vs → vs[i]? = some v → ∃ d, ds[i]? = some d ∧ RelD K g d v
  | _, _, _, _, .nil, e => by simp at e
  | _, _, 0, _, .cons h _, e => by
    have e' := Option.some.inj e
    subst e'
    exact ⟨_, rfl, h⟩
  | _, _, i + 1, _, .cons _ r, e => RelL.get (i := i) r e
theorem RelL.got : ∀ {ds : List D} {vs : List V} {i : Nat} {d : D}, RelL K g ds vs → ds[i]? = some d → ∃ v, vs[i]? = some v ∧ RelD K g d v
  | _, _, _, _, .nil, e => by simp at e
  | _, _, 0, _, .cons h _, e => by
    have e' := Option.some.inj e
    subst e'
    exact ⟨_, rfl, h⟩
  | _, _, i + 1, _, .cons _ r, e => RelL.got (i := i) r e
theorem RelL.app : ∀ {ds es : List D} {vs ws : List V}, RelL K g ds vs → RelL K g es ws → RelL K g (ds ++ es) (vs ++ ws)
  | _, _, _, _, .nil, s => s
  | _, _, _, _, .cons h r, s => .cons h (r.app s)
theorem RelL.take : ∀ {ds : List D} {vs : List V} (n : Nat), RelL K g ds vs → RelL K g (ds.take n) (vs.take n)
  | _, _, 0, _ => .nil
  | _, _, _ + 1, .nil => .nil
  | _, _, n + 1, .cons h r => .cons h (r.take n)
theorem RelL.drop : ∀ {ds : List D} {vs : List V} (n : Nat), RelL K g ds vs → RelL K g (ds.drop n) (vs.drop n)
  | _, _, 0, r => r
  | _, _, _ + 1, .nil => .nil
  | _, _, n + 1, .cons _ r => r.drop n
theorem RelL.set {d : D} {v : V} (h : RelD K g d v) : ∀ {ds : List D} {vs : List V} (i : Nat), RelL K g ds vs → RelL K g (ds.set i d) (vs.set i v)
  | _, _, _, .nil => .nil
  | _, _, 0, .cons _ r => .cons h r
  | _, _, i + 1, .cons q r => .cons q (r.set h i)
theorem RelL.rev {ds : List D} {vs : List V} (h : RelL K g ds vs) : RelL K g ds.reverse vs.reverse := by
  induction ds generalizing vs with
  | nil => cases h; exact .nil
  | cons d ds ih =>
    cases h with
    | cons h r =>
      rw [List.reverse_cons, List.reverse_cons]
      exact (ih r).app (.cons h .nil)
theorem RelL.ints : ∀ {ns : List Int} {vs : List V}, RelL K g (ns.map D.int) vs → vs = ns.map V.int
  | [], _, .nil => rfl
  | n :: ns, _, .cons h r => by
    cases h
    rw [r.ints]
    rfl
theorem RelL.of_ints : ∀ (ns : List Int), RelL K g (ns.map D.int) (ns.map V.int)
  | [] => .nil
  | n :: ns => .cons (.int n) (RelL.of_ints ns)
theorem RelL.bls : ∀ {ns : List Bool} {vs : List V}, RelL K g (ns.map D.bl) vs → vs = ns.map V.bl
  | [], _, .nil => rfl
  | n :: ns, _, .cons h r => by
    cases h
    rw [r.bls]
    rfl
theorem RelL.strs : ∀ {ns : List Str} {vs : List V}, RelL K g (ns.map D.str) vs → vs = ns.map V.str
  | [], _, .nil => rfl
  | n :: ns, _, .cons h r => by
    cases h
    rw [r.strs]
    rfl
theorem RelL.of_strs : ∀ (ns : List Str), RelL K g (ns.map D.str) (ns.map V.str)
  | [] => .nil
  | n :: ns => .cons (.str n) (RelL.of_strs ns)
theorem RelL.rep {d : D} {v : V} (h : RelD K g d v) : ∀ n : Nat, RelL K g (List.replicate n d) (List.replicate n v)
  | 0 => .nil
  | n + 1 => by
    rw [List.replicate_succ, List.replicate_succ]
    exact .cons h (RelL.rep h n)
theorem RelL.flat {ds : List D} {vs : List V} (h : RelL K g ds vs) : ∀ n : Nat, RelL K g (List.replicate n ds).flatten (List.replicate n vs).flatten
  | 0 => .nil
  | n + 1 => by
    rw [List.replicate_succ, List.replicate_succ, List.flatten_cons, List.flatten_cons]
    exact h.app (RelL.flat h n)
end

/-- pairs: keys, or names -/
inductive RelP (K : PySem.W.Frag) (g : G) {κ : Type} : List (κ × D) → List (κ × V) → Prop where
  | nil : RelP K g [] []
  | cons {k : κ} {d : D} {v : V} {ds : List (κ × D)} {vs : List (κ × V)} (h : RelD K g d v) (r : RelP K g ds vs) : RelP K g ((k, d) :: ds) ((k, v) :: vs)
section
variable {K : PySem.W.Frag} {g g' : G} {κ : Type}
theorem RelP.mono (x : Gr g g') : ∀ {ds : List (κ × D)} {vs : List (κ × V)}, RelP K g ds vs → RelP K g' ds vs
  | _, _, .nil => .nil
  | _, _, .cons h r => .cons (h.mono x) (RelP.mono x r)
theorem RelP.len : ∀ {ds : List (κ × D)} {vs : List (κ × V)}, RelP K g ds vs → ds.length = vs.length
  | _, _, .nil => rfl
  | _, _, .cons _ r => by rw [List.length_cons, List.length_cons, r.len]
theorem RelP.keys : ∀ {ds : List (κ × D)} {vs : List (κ × V)}, RelP K g ds vs → ds.map (·.1) = vs.map (·.1)
  | _, _, .nil => rfl
  | _, _, .cons _ r => by rw [List.map_cons, List.map_cons, r.keys]
theorem RelP.look [BEq κ] {k : κ} {d : D} : ∀ {ds : List (κ × D)} {vs : List (κ × V)}, RelP K g ds vs → ds.lookup k = some d → ∃ v, vs.lookup k = some v ∧ RelD K g d v
  | _, _, .nil, e => by simp at e
  | _, _, .cons (k := j) h r, e => by
    rw [List.lookup_cons] at e ⊢
    cases q : k == j with
    | true =>
      rw [q] at e
      have e' := Option.some.inj e
      subst e'
      exact ⟨_, rfl, h⟩
    | false =>
      rw [q] at e
      exact RelP.look r e
theorem RelP.look0 [BEq κ] {k : κ} : ∀ {ds : List (κ × D)} {vs : List (κ × V)}, RelP K g ds vs → ds.lookup k = none → vs.lookup k = none
  | _, _, .nil, _ => rfl
  | _, _, .cons (k := j) h r, e => by
    rw [List.lookup_cons] at e ⊢
    cases q : k == j with
    | true =>
      rw [q] at e
      cases e
    | false =>
      rw [q] at e
      exact RelP.look0 r e
end
def ObjR (K : PySem.W.Frag) (g : G) (H : Hp) (a : Addr) : MO → Prop
  | .gone => True
  | .lst xs => g.F a = none ∧ ∃ vs, H a = some (.lst vs) ∧ RelL K g xs vs
  | .dic kvs => g.F a = none ∧ ∃ ks, H a = some (.dK ks) ∧ RelP K g kvs ks
  | .ins C fs => g.F a = none ∧ ∃ dx vs, H a = some (.ins C dx vs) ∧ RelP K g fs vs
  | .fdic od ks kvs => g.F a = none ∧ H a = some (.frz od (.dK ks)) ∧ RelP K g kvs ks
theorem ObjR.mono {K : PySem.W.Frag} {g g' : G} {H H' : Hp} {a : Addr} (x : Gr g g') (hF : g.F a = none → g'.F a = none) (hH : ∀ o, H a = some o → H' a = some o) : ∀ {mo : MO}, ObjR K g H a mo → ObjR K g' H' a mo
  | .gone, _ => trivial
  | .lst _, ⟨f, vs, e, r⟩ => ⟨hF f, vs, hH _ e, r.mono x⟩
  | .dic _, ⟨f, vs, e, r⟩ => ⟨hF f, vs, hH _ e, r.mono x⟩
  | .ins _ _, ⟨f, dx, vs, e, r⟩ => ⟨hF f, dx, vs, hH _ e, r.mono x⟩
  | .fdic _ _ _, ⟨f, e, r⟩ => ⟨hF f, hH _ e, r.mono x⟩
structure RelM (K : KB) (g : G) (H : Hp) (M : MM) : Prop where
  ex : Same g.F H
  len : g.as.length = M.length
  nd : g.as.Nodup
  tk : ∀ a ∈ g.as, ∃ o, H a = some o
  ob : ∀ (n : Nat) (a : Addr) (mo : MO), g.as[n]? = some a → M[n]? = some mo → ObjR K g H a mo
  up : Gx K.g0 K.H0 g H
section
variable {K : KB} {g g' : G} {H H' : Hp} {M : MM}
theorem RelM.same (r : RelM K g H M) (s : Same H H') : RelM K g H' M :=
  ⟨r.ex.trans s, r.len, r.nd, fun a ha => by
    obtain ⟨o, e⟩ := r.tk a ha
    exact ⟨o, s _ _ e⟩, fun n a mo h1 h2 => (r.ob n a mo h1 h2).mono (Gr.refl g) id (s a), r.up.same s⟩
theorem same_new {H : Hp} {p : Addr} {o : HO} (h : H p = none) : Same H (upd H p o) := fun b x e => by
  rw [upd_ne (ne_of_none e h)]
  exact e
/-- a new thing that stands for good -/
theorem RelM.grow {p : Addr} {o : HO} (r : RelM K g H M) (hp : H p = none) : Gx g H ⟨upd g.F p o, g.as⟩ (upd H p o) ∧ RelM K ⟨upd g.F p o, g.as⟩ (upd H p o) M := by
  have fp : g.F p = none := r.ex.free hp
  have x : Gr g ⟨upd g.F p o, g.as⟩ := ⟨same_new fp, [], (List.append_nil _).symm⟩
  have gx : Gx g H ⟨upd g.F p o, g.as⟩ (upd H p o) := ⟨x, fun b u _ e => same_new hp _ _ e, fun _ h => .inl h, fun b hb => by
    by_cases q : b = p
    · subst q
      exact .inr (.inr hp)
    · left
      show upd g.F p o b = none
      rw [upd_ne q]
      exact hb⟩
  refine ⟨gx, fun b u e => ?_, r.len, r.nd, fun a ha => ?_, fun n a mo h1 h2 => ?_, r.up.trans gx⟩
  · have e' : upd g.F p o b = some u := e
    by_cases hb : b = p
    · subst hb
      rw [upd_same] at e' ⊢
      exact e'
    · rw [upd_ne hb] at e' ⊢
      exact r.ex _ _ e'
  · obtain ⟨u, e⟩ := r.tk a ha
    exact ⟨u, same_new hp _ _ e⟩
  · have h1' : g.as[n]? = some a := h1
    obtain ⟨u, e⟩ := r.tk a (List.mem_of_getElem? h1')
    refine (r.ob n a mo h1' h2).mono x (fun f => ?_) (same_new hp a)
    show upd g.F p o a = none
    rw [upd_ne (ne_of_none e hp)]
    exact f
/-- a new thing of the store -/
theorem RelM.push {p : Addr} {o : HO} {mo : MO} (r : RelM K g H M) (hp : H p = none) (ho : ∀ g', Gr g g' → g'.F p = none → ObjR K g' (upd H p o) p mo) :
    Gx g H ⟨g.F, g.as ++ [p]⟩ (upd H p o) ∧ RelM K ⟨g.F, g.as ++ [p]⟩ (upd H p o) (M ++ [mo]) ∧ (g.as ++ [p])[M.length]? = some p := by
  have x : Gr g ⟨g.F, g.as ++ [p]⟩ := ⟨Same.refl _, [p], rfl⟩
  have fp : g.F p = none := r.ex.free hp
  have gx : Gx g H ⟨g.F, g.as ++ [p]⟩ (upd H p o) := ⟨x, fun b u _ e => same_new hp _ _ e, fun b hb => by
    rcases List.mem_append.mp hb with h | h
    · exact .inl h
    · have e : b = p := by simpa using h
      subst e
      exact .inr hp, fun _ h => .inl h⟩
  refine ⟨gx, ⟨r.ex.trans (same_new hp), ?_, ?_, fun a ha => ?_, fun n a mo' h1 h2 => ?_, r.up.trans gx⟩, ?_⟩
  · show (g.as ++ [p]).length = (M ++ [mo]).length
    rw [List.length_append, List.length_append, r.len]
    rfl
  · show (g.as ++ [p]).Nodup
    rw [List.nodup_append]
    refine ⟨r.nd, by simp, fun a ha b hb => ?_⟩
    have e : b = p := by simpa using hb
    subst e
    obtain ⟨u, e⟩ := r.tk a ha
    exact ne_of_none e hp
  · rcases List.mem_append.mp ha with h | h
    · obtain ⟨u, e⟩ := r.tk a h
      exact ⟨u, same_new hp _ _ e⟩
    · have e : a = p := by simpa using h
      subst e
      exact ⟨o, upd_same⟩
  · have h1' : (g.as ++ [p])[n]? = some a := h1
    by_cases hn : n < g.as.length
    · rw [List.getElem?_append_left hn] at h1'
      rw [List.getElem?_append_left (by rw [← r.len]; exact hn)] at h2
      exact (r.ob n a mo' h1' h2).mono x id (same_new hp a)
    · have hn2 : n < (g.as ++ [p]).length := (List.getElem?_eq_some_iff.mp h1').1
      rw [List.length_append, List.length_singleton] at hn2
      have en : n = g.as.length := by omega
      subst en
      rw [List.getElem?_append_right (Nat.le_refl _), Nat.sub_self] at h1'
      rw [r.len, List.getElem?_append_right (Nat.le_refl _), Nat.sub_self] at h2
      have e1 : p = a := Option.some.inj h1'
      have e2 : mo = mo' := Option.some.inj h2
      subst e1
      subst e2
      exact ho _ x fp
  · rw [← r.len, List.getElem?_append_right (Nat.le_refl _), Nat.sub_self]
    rfl
theorem idx_inj {l : List Addr} (nd : l.Nodup) {n m : Nat} {a : Addr} (h1 : l[n]? = some a) (h2 : l[m]? = some a) : n = m :=
  (List.getElem?_inj (List.getElem?_eq_some_iff.mp h1).1 nd).mp (h1.trans h2.symm)
/-- one of the store's objects is changed -/
theorem RelM.put {n : Nat} {a : Addr} {o : HO} {mo : MO} (r : RelM K g H M) (ha : g.as[n]? = some a) (fa : g.F a = none) (ho : ObjR K g (upd H a o) a mo) : Gx g H g (upd H a o) ∧ RelM K g (upd H a o) (M.set n mo) := by
  have gx : Gx g H g (upd H a o) := ⟨Gr.refl g, fun b u hb e => by rw [upd_ne (fun z => hb (by rw [z]; exact List.mem_of_getElem? ha))]; exact e, fun _ h => .inl h, fun _ h => .inl h⟩
  refine ⟨gx, fun b u e => ?_, by rw [List.length_set]; exact r.len, r.nd, fun b hb => ?_, fun m b mo' h1 h2 => ?_, r.up.trans gx⟩
  · rw [upd_ne (ne_of_none e fa)]
    exact r.ex _ _ e
  · by_cases e : b = a
    · subst e
      exact ⟨o, upd_same⟩
    · obtain ⟨u, q⟩ := r.tk b hb
      exact ⟨u, by rw [upd_ne e]; exact q⟩
  · by_cases e : m = n
    · subst e
      have eb : b = a := Option.some.inj (h1.symm.trans ha)
      subst eb
      have hl : m < M.length := by
        rw [← r.len]
        exact (List.getElem?_eq_some_iff.mp ha).1
      rw [List.getElem?_set_self hl] at h2
      cases h2
      exact ho
    · rw [List.getElem?_set_ne (fun q => e q.symm)] at h2
      have ne : b ≠ a := fun q => e (idx_inj r.nd (q ▸ h1) ha)
      exact (r.ob m b mo' h1 h2).mono (Gr.refl g) id fun u q => by rw [upd_ne ne]; exact q
/-- a list of the store is one that stands for good -/
theorem RelM.freeze {n : Nat} {a : Addr} {xs : List D} (r : RelM K g H M) (ha : g.as[n]? = some a) (hm : M[n]? = some (.lst xs)) :
    ∃ g', Gx g H g' H ∧ RelM K g' H (M.set n .gone) ∧ RelD K g' (.lst xs) (.ref a) := by
  obtain ⟨fa, vs, hv, rl⟩ := r.ob n a _ ha hm
  have x : Gr g ⟨upd g.F a (.lst vs), g.as⟩ := ⟨same_new fa, [], (List.append_nil _).symm⟩
  have gx : Gx g H ⟨upd g.F a (.lst vs), g.as⟩ H := ⟨x, fun _ _ _ e => e, fun _ h => .inl h, fun b hb => by
    by_cases q : b = a
    · subst q
      exact .inr (.inl (List.mem_of_getElem? ha))
    · left
      show upd g.F a _ b = none
      rw [upd_ne q]
      exact hb⟩
  refine ⟨_, gx, ⟨fun b u e => ?_, by rw [List.length_set]; exact r.len, r.nd, r.tk, fun m b mo h1 h2 => ?_, r.up.trans gx⟩, .lst (.inl upd_same) (rl.mono x)⟩
  · have e' : upd g.F a (.lst vs) b = some u := e
    by_cases hb : b = a
    · subst hb
      rw [upd_same] at e'
      rw [hv]
      exact e'
    · rw [upd_ne hb] at e'
      exact r.ex _ _ e'
  · have h1' : g.as[m]? = some b := h1
    by_cases e : m = n
    · subst e
      have hl : m < M.length := by
        rw [← r.len]
        exact (List.getElem?_eq_some_iff.mp ha).1
      rw [List.getElem?_set_self hl] at h2
      cases h2
      trivial
    · rw [List.getElem?_set_ne (fun q => e q.symm)] at h2
      have ne : b ≠ a := fun q => e (idx_inj r.nd (q ▸ h1') ha)
      refine (r.ob m b mo h1' h2).mono x (fun f => ?_) fun _ q => q
      show upd g.F a _ b = none
      rw [upd_ne ne]
      exact f
end
/-! all places in it lie below k -/
mutual
def D.under (k : Nat) : D → Bool
  | .loc n => decide (n < k)
  | .lst xs => D.underL k xs
  | .tup xs => D.underL k xs
  | .scr xs => D.underL k xs
  | .dct _ xs => D.underL k xs
  | _ => true
def D.underL (k : Nat) : List D → Bool
  | [] => true
  | d :: ds => d.under k && D.underL k ds
end
mutual
theorem D.under_mono {k m : Nat} (h : k ≤ m) : ∀ {d : D}, d.under k = true → d.under m = true
  | .non, _ | .bl _, _ | .int _, _ | .str _, _ | .ty _, _ | .exn _, _ => by simp [D.under]
  | .lst xs, e => by
    simp only [D.under] at e ⊢
    exact D.underL_mono h e
  | .tup xs, e => by
    simp only [D.under] at e ⊢
    exact D.underL_mono h e
  | .scr xs, e => by
    simp only [D.under] at e ⊢
    exact D.underL_mono h e
  | .dct _ xs, e => by
    simp only [D.under] at e ⊢
    exact D.underL_mono h e
  | .loc n, e => by
    simp only [D.under, decide_eq_true_eq] at e ⊢
    omega
theorem D.underL_mono {k m : Nat} (h : k ≤ m) : ∀ {d : List D}, D.underL k d = true → D.underL m d = true
  | [], _ => by simp [D.underL]
  | d :: ds, e => by
    simp only [D.underL, Bool.and_eq_true] at e ⊢
    exact ⟨D.under_mono h e.1, D.underL_mono h e.2⟩
end
mutual
theorem RelD.cut {K : PySem.W.Frag} {F : Hp} {as : List Addr} {k : Nat} : ∀ {d : D} {v : V}, RelD K ⟨F, as⟩ d v → d.under k = true → RelD K ⟨F, as.take k⟩ d v
  | _, _, .non, _ => .non
  | _, _, .bl b, _ => .bl b
  | _, _, .int i, _ => .int i
  | _, _, .str i, _ => .str i
  | _, _, .ty i, _ => .ty i
  | _, _, .lst h r, e => .lst h (RelL.cut r (by simpa only [D.under] using e))
  | _, _, .tup h r, e => .tup h (RelL.cut r (by simpa only [D.under] using e))
  | _, _, .scr h r, e => .scr h (RelL.cut r (by simpa only [D.under] using e))
  | _, _, .exn a, _ => .exn a
  | _, _, .dct h hl r, e => .dct h hl (RelL.cut r (by simpa only [D.under] using e))
  | _, _, .loc (n := n) h, e => .loc (by
      have e' : n < k := by simpa only [D.under, decide_eq_true_eq] using e
      show (as.take k)[n]? = some _
      rw [List.getElem?_take, if_pos e']
      exact h)
theorem RelL.cut {K : PySem.W.Frag} {F : Hp} {as : List Addr} {k : Nat} : ∀ {d : List D} {v : List V}, RelL K ⟨F, as⟩ d v → D.underL k d = true → RelL K ⟨F, as.take k⟩ d v
  | _, _, .nil, _ => .nil
  | _, _, .cons h r, e => by
    simp only [D.underL, Bool.and_eq_true] at e
    exact .cons (RelD.cut h e.1) (RelL.cut r e.2)
theorem RelD.low {K : PySem.W.Frag} {g : G} : ∀ {d : D} {v : V}, RelD K g d v → d.under g.as.length = true
  | _, _, .non | _, _, .bl _ | _, _, .int _ | _, _, .str _ | _, _, .ty _ | _, _, .exn _ => by simp [D.under]
  | _, _, .lst h r => by
    simp only [D.under]
    exact RelL.low r
  | _, _, .tup h r => by
    simp only [D.under]
    exact RelL.low r
  | _, _, .scr h r => by
    simp only [D.under]
    exact RelL.low r
  | _, _, .dct _ _ r => by
    simp only [D.under]
    exact RelL.low r
  | _, _, .loc h => by
    simp only [D.under, decide_eq_true_eq]
    exact (List.getElem?_eq_some_iff.mp h).1
theorem RelL.low {K : PySem.W.Frag} {g : G} : ∀ {d : List D} {v : List V}, RelL K g d v → D.underL g.as.length d = true
  | _, _, .nil => by simp [D.underL]
  | _, _, .cons h r => by
    simp only [D.underL, Bool.and_eq_true]
    exact ⟨RelD.low h, RelL.low r⟩
end
def MO.under (k : Nat) : MO → Bool
  | .gone => true
  | .lst xs => D.underL k xs
  | .dic kvs => D.underL k (kvs.map (·.2))
  | .ins _ fs => D.underL k (fs.map (·.2))
  | .fdic _ _ kvs => D.underL k (kvs.map (·.2))
section
variable {K : PySem.W.Frag} {g g' : G} {H H' : Hp} {M : MM} {κ : Type}
theorem RelP.cut {F : Hp} {as : List Addr} {k : Nat} : ∀ {d : List (κ × D)} {v : List (κ × V)}, RelP K ⟨F, as⟩ d v → D.underL k (d.map (·.2)) = true → RelP K ⟨F, as.take k⟩ d v
  | _, _, .nil, _ => .nil
  | _, _, .cons h r, e => by
    simp only [List.map_cons, D.underL, Bool.and_eq_true] at e
    exact .cons (RelD.cut h e.1) (RelP.cut r e.2)
theorem RelP.low : ∀ {d : List (κ × D)} {v : List (κ × V)}, RelP K g d v → D.underL g.as.length (d.map (·.2)) = true
  | _, _, .nil => by simp [D.underL]
  | _, _, .cons h r => by
    simp only [List.map_cons, D.underL, Bool.and_eq_true]
    exact ⟨RelD.low h, RelP.low r⟩
theorem ObjR.low {a : Addr} : ∀ {mo : MO}, ObjR K g H a mo → mo.under g.as.length = true
  | .gone, _ => rfl
  | .lst _, ⟨_, _, _, r⟩ => r.low
  | .dic _, ⟨_, _, _, r⟩ => r.low
  | .ins _ _, ⟨_, _, _, _, r⟩ => r.low
  | .fdic _ _ _, ⟨_, _, r⟩ => r.low
end
section
variable {K : KB} {g g' : G} {H H' : Hp} {M : MM}
theorem RelM.low (r : RelM K g H M) {n : Nat} {mo : MO} (h : M[n]? = some mo) : mo.under M.length = true := by
  have hn : n < g.as.length := by
    rw [r.len]
    exact (List.getElem?_eq_some_iff.mp h).1
  rw [← r.len]
  exact (r.ob n _ mo (List.getElem?_eq_getElem hn) h).low
/-- the store's end may be forgotten if nothing ahead of it speaks of it -/
theorem Gx.cut {g g' : G} {H H' : Hp} {k : Nat} (x : Gx g H g' H') (hk : g.as.length ≤ k) : Gx g H ⟨g'.F, g'.as.take k⟩ H' := by
  refine ⟨⟨x.gr.f, ?_⟩, x.keep, fun a ha => x.new a (List.mem_of_mem_take ha), x.newF⟩
  obtain ⟨l, e⟩ := x.gr.p
  refine ⟨l.take (k - g.as.length), ?_⟩
  show g'.as.take k = _
  rw [e, List.take_append, List.take_of_length_le hk]
theorem RelM.cut {k : Nat} (r : RelM K g H M) (hk : K.g0.as.length ≤ k) (hb : ∀ n mo, n < k → M[n]? = some mo → mo.under k = true) : RelM K ⟨g.F, g.as.take k⟩ H (M.take k) := by
  refine ⟨r.ex, ?_, r.nd.sublist (List.take_sublist _ _), fun a ha => r.tk a (List.mem_of_mem_take ha), fun n a mo h1 h2 => ?_, r.up.cut hk⟩
  · show (g.as.take k).length = (M.take k).length
    rw [List.length_take, List.length_take, r.len]
  · have h1' : (g.as.take k)[n]? = some a := h1
    rw [List.getElem?_take] at h1' h2
    by_cases hn : n < k
    · rw [if_pos hn] at h1' h2
      have q := r.ob n a mo h1' h2
      have e := hb n mo hn h2
      cases mo with
      | gone => trivial
      | lst xs =>
        obtain ⟨f, vs, hv, rl⟩ := q
        exact ⟨f, vs, hv, rl.cut e⟩
      | dic xs =>
        obtain ⟨f, vs, hv, rl⟩ := q
        exact ⟨f, vs, hv, rl.cut e⟩
      | ins C xs =>
        obtain ⟨f, dx, vs, hv, rl⟩ := q
        exact ⟨f, dx, vs, hv, rl.cut e⟩
      | fdic od ks xs =>
        obtain ⟨f, hv, rl⟩ := q
        exact ⟨f, hv, rl.cut e⟩
    · rw [if_neg hn] at h2
      cases h2
/-- .. seen from elsewhere -/
theorem RelM.base {K' : KB} (r : RelM K g H M) (h : K'.k = K.k) (x : Gx K'.g0 K'.H0 g H) : RelM K' g H M := ⟨r.ex, r.len, r.nd, r.tk, fun n a mo h1 h2 => by rw [h]; exact r.ob n a mo h1 h2, x⟩
theorem RelM.start (r : RelM K g H M) : RelM ⟨K.k, g, H⟩ g H M := r.base rfl (Gx.refl g H)
theorem RelM.free0 {p : Addr} (r : RelM K g H M) (h : H p = none) : K.H0 p = none := by
  cases e : K.H0 p with
  | none => rfl
  | some o =>
    by_cases q : p ∈ K.g0.as
    · obtain ⟨l, z⟩ := r.up.gr.p
      obtain ⟨u, w⟩ := r.tk p (by rw [z]; exact List.mem_append_left _ q)
      rw [h] at w
      cases w
    · have w := r.up.keep p o q e
      rw [h] at w
      cases w
end
/-! ### the data as the model's own -/
mutual
def D.py : D → PyData
  | .non => .none
  | .bl b => .bool b
  | .int i => .int i
  | .str x => .str x
  | .lst xs => .list (D.pyL xs)
  | .tup xs => .tuple (D.pyL xs)
  | .loc _ => .none
  | .ty _ => .none
  | .scr _ => .none
  | .exn _ => .none
  | .dct _ _ => .none
def D.pyL : List D → List PyData
  | [] => []
  | d :: ds => d.py :: D.pyL ds
end
mutual
def D.pure : D → Bool
  | .loc _ => false
  | .ty _ => false
  | .scr _ => false
  | .exn _ => false
  | .dct _ _ => false
  | .lst xs => D.pureL xs
  | .tup xs => D.pureL xs
  | _ => true
def D.pureL : List D → Bool
  | [] => true
  | d :: ds => d.pure && D.pureL ds
end
mutual
theorem D.pure_under {k : Nat} : ∀ {d : D}, d.pure = true → d.under k = true
  | .non, _ | .bl _, _ | .int _, _ | .str _, _ | .ty _, _ | .exn _, _ => by simp [D.under]
  | .lst xs, e => by
    simp only [D.under, D.pure] at e ⊢
    exact D.pureL_under e
  | .tup xs, e => by
    simp only [D.under, D.pure] at e ⊢
    exact D.pureL_under e
  | .loc n, e => by simp [D.pure] at e
  | .scr n, e => by simp [D.pure] at e
  | .dct _ _, e => by simp [D.pure] at e
theorem D.pureL_under {k : Nat} : ∀ {d : List D}, D.pureL d = true → D.underL k d = true
  | [], _ => by simp [D.underL]
  | d :: ds, e => by
    simp only [D.underL, D.pureL, Bool.and_eq_true] at e ⊢
    exact ⟨D.pure_under e.1, D.pureL_under e.2⟩
end
mutual
theorem RelD.dp {K : PySem.W.Frag} {g : G} {H : Hp} (s : Same g.F H) : ∀ {d : D} {v : V}, RelD K g d v → d.pure = true → Dp K H v d.py
  | _, _, .non, _ => .non
  | _, _, .bl b, _ => .bl b
  | _, _, .int i, _ => .int i
  | _, _, .str i, _ => .str i
  | _, _, .lst h r, e => .lst (.inl (same_rd s h)) (RelL.dp s r (by simpa only [D.pure] using e))
  | _, _, .tup h r, e => .tup (same_t s h) (RelL.dp s r (by simpa only [D.pure] using e))
  | _, _, .loc h, e => by simp [D.pure] at e
  | _, _, .ty n, e => by simp [D.pure] at e
  | _, _, .scr _ _, e => by simp [D.pure] at e
  | _, _, .exn _, e => by simp [D.pure] at e
  | _, _, .dct _ _ _, e => by simp [D.pure] at e
theorem RelL.dp {K : PySem.W.Frag} {g : G} {H : Hp} (s : Same g.F H) : ∀ {d : List D} {v : List V}, RelL K g d v → D.pureL d = true → DpAll K H v (D.pyL d)
  | _, _, .nil, _ => .nil
  | _, _, .cons h r, e => by
    simp only [D.pureL, Bool.and_eq_true] at e
    exact .cons (RelD.dp s h e.1) (RelL.dp s r e.2)
end
mutual
theorem D.py_plain : ∀ d : D, d.py.plain = true
  | .non | .bl _ | .int _ | .str _ | .loc _ | .ty _ | .scr _ | .exn _ | .dct _ _ => by simp [D.py, PyData.plain]
  | .lst xs | .tup xs => by
    simp only [D.py, PyData.plain]
    exact D.pyL_plain xs
theorem D.pyL_plain : ∀ d : List D, PyData.plainAll (D.pyL d) = true
  | [] => by simp [D.pyL, PyData.plainAll]
  | d :: ds => by
    simp only [D.pyL, PyData.plainAll, Bool.and_eq_true]
    exact ⟨D.py_plain d, D.pyL_plain ds⟩
end
/-! how deep -/
mutual
def D.depth : D → Nat
  | .lst xs => D.depthL xs + 1
  | .tup xs => D.depthL xs + 1
  | _ => 0
def D.depthL : List D → Nat
  | [] => 0
  | d :: ds => max d.depth (D.depthL ds)
end
mutual
theorem D.py_depth : ∀ d : D, d.py.depth = d.depth
  | .non | .bl _ | .int _ | .str _ | .loc _ | .ty _ | .scr _ | .exn _ | .dct _ _ => by simp [D.py, D.depth, PyData.depth]
  | .lst xs | .tup xs => by
    simp only [D.py, D.depth, PyData.depth]
    rw [D.pyL_depth xs]
theorem D.pyL_depth : ∀ d : List D, PyData.depthAll (D.pyL d) = D.depthL d
  | [] => by simp [D.pyL, D.depthL, PyData.depthAll]
  | d :: ds => by
    simp only [D.pyL, D.depthL, PyData.depthAll]
    rw [D.py_depth d, D.pyL_depth ds]
end
/-! == -/
mutual
def D.eqv : D → D → Bool
  | .non, .non => true
  | .bl a, .bl b => a == b
  | .bl a, .int b => (if a then 1 else 0) == b
  | .int a, .bl b => a == (if b then 1 else 0)
  | .int a, .int b => a == b
  | .str a, .str b => a == b
  | .lst xs, .lst ys => D.eqvL xs ys
  | .tup xs, .tup ys => D.eqvL xs ys
  | _, _ => false
def D.eqvL : List D → List D → Bool
  | [], [] => true
  | x :: xs, y :: ys => D.eqv x y && D.eqvL xs ys
  | _, _ => false
end
mutual
theorem D.eqv_py : ∀ (x y : D), x.pure = true → y.pure = true → PyData.eqv x.py y.py = D.eqv x y
  | .loc _, _, e, _ => by simp [D.pure] at e
  | .ty _, _, e, _ => by simp [D.pure] at e
  | .scr _, _, e, _ => by simp [D.pure] at e
  | .exn _, _, e, _ => by simp [D.pure] at e
  | .dct _ _, _, e, _ => by simp [D.pure] at e
  | .non, y, _, e => by cases y <;> simp [D.py, D.eqv, PyData.eqv, D.pure] at e ⊢
  | .bl b, y, _, e => by cases y <;> simp [D.py, D.eqv, PyData.eqv, D.pure] at e ⊢
  | .int b, y, _, e => by cases y <;> simp [D.py, D.eqv, PyData.eqv, D.pure] at e ⊢
  | .str b, y, _, e => by cases y <;> simp [D.py, D.eqv, PyData.eqv, D.pure] at e ⊢
  | .lst xs, y, h, e => by
    cases y <;> simp only [D.py, D.eqv, PyData.eqv, D.pure] at h e ⊢
    · exact D.eqvL_py xs _ h e
  | .tup xs, y, h, e => by
    cases y <;> simp only [D.py, D.eqv, PyData.eqv, D.pure] at h e ⊢
    · exact D.eqvL_py xs _ h e
theorem D.eqvL_py : ∀ (x y : List D), D.pureL x = true → D.pureL y = true → PyData.eqvAll (D.pyL x) (D.pyL y) = D.eqvL x y
  | [], y, _, e => by cases y <;> simp [D.pyL, D.eqvL, PyData.eqvAll]
  | x :: xs, y, h, e => by
    cases y with
    | nil => simp [D.pyL, D.eqvL, PyData.eqvAll]
    | cons y ys =>
      simp only [D.pyL, D.eqvL, PyData.eqvAll, D.pureL, Bool.and_eq_true] at h e ⊢
      rw [D.eqv_py x y h.1 e.1, D.eqvL_py xs ys h.2 e.2]
end
end AX

namespace AX
open PySem L2
abbrev DK := D → MM → Prop
abbrev DE := DEnv → MM → DK → Prop
abbrev DT := DEnv → MM → (Bool → MM → Prop) → Prop
abbrev DA := DEnv → MM → (List D → MM → Prop) → Prop
abbrev D2 := D → D → MM → DK → Prop
abbrev D1 := D → MM → DK → Prop
abbrev DL := List D → MM → DK → Prop
structure RelS (K : PySem.W.Frag) (g : G) (σ : L2.St) (ds : DEnv) : Prop where
  len : ds.length = σ.length
  get : ∀ (i : Nat) (d : D), ds[i]? = some (some d) → ∃ v, σ[i]? = some (some v) ∧ RelD K g d v
theorem RelS.mono {K : PySem.W.Frag} {g g' : G} {σ : L2.St} {ds : DEnv} (r : RelS K g σ ds) (x : Gr g g') : RelS K g' σ ds :=
  ⟨r.len, fun i d h => by
    obtain ⟨v, e, q⟩ := r.get i d h
    exact ⟨v, e, q.mono x⟩⟩
theorem RelS.set {K : PySem.W.Frag} {g : G} {σ : L2.St} {ds : DEnv} {d : D} {v : V} (r : RelS K g σ ds) (h : RelD K g d v) (i : Nat) : RelS K g (σ.set i (some v)) (ds.set i (some d)) := by
  refine ⟨by rw [List.length_set, List.length_set]; exact r.len, fun j e q => ?_⟩
  by_cases hj : j = i
  · subst hj
    have hl : j < ds.length := by
      have z := (List.getElem?_eq_some_iff.mp q).1
      rw [List.length_set] at z
      exact z
    rw [List.getElem?_set_self hl] at q
    have q' : d = e := Option.some.inj (Option.some.inj q)
    subst q'
    exact ⟨v, List.getElem?_set_self (by rw [← r.len]; exact hl), h⟩
  · rw [List.getElem?_set_ne (fun z => hj z.symm)] at q
    obtain ⟨w, e1, e2⟩ := r.get j e q
    exact ⟨w, by rw [List.getElem?_set_ne (fun z => hj z.symm)]; exact e1, e2⟩
abbrev PostE (K : KB) (g : G) (H : Hp) (Q : DK) (R : VK) : Prop := ∀ g' H' M' d v, Gx g H g' H' → RelM K g' H' M' → RelD K g' d v → Q d M' → R v H'
def LE (K : KB) (t : TE) (u : DE) : Prop := ∀ g H σ ds M, RelM K g H M → RelS K g σ ds → ∀ Q, u ds M Q → ∀ R, PostE K g H Q R → t σ H R
def LT (K : KB) (t : TT) (u : DT) : Prop := ∀ g H σ ds M, RelM K g H M → RelS K g σ ds → ∀ Q, u ds M Q → ∀ R : Bool → Hp → Prop, (∀ g' H' M' b, Gx g H g' H' → RelM K g' H' M' → Q b M' → R b H') → t σ H R
def LA (K : KB) (t : TA) (u : DA) : Prop := ∀ g H σ ds M, RelM K g H M → RelS K g σ ds → ∀ Q, u ds M Q → ∀ R : List V → Hp → Prop, (∀ g' H' M' xs vs, Gx g H g' H' → RelM K g' H' M' → RelL K g' xs vs → Q xs M' → R vs H') → t σ H R
def LR (K : KB) (r : R2) (u : D2) : Prop := ∀ g H M x y v w, RelM K g H M → RelD K g x v → RelD K g y w → ∀ Q, u x y M Q → ∀ R, PostE K g H Q R → r v w H R
def LU (K : KB) (r : V → Hp → VK → Prop) (u : D1) : Prop := ∀ g H M x v, RelM K g H M → RelD K g x v → ∀ Q, u x M Q → ∀ R, PostE K g H Q R → r v H R
def LC (K : KB) (r : List V → Hp → VK → Prop) (u : DL) : Prop := ∀ g H M xs vs, RelM K g H M → RelL K g xs vs → ∀ Q, u xs M Q → ∀ R, PostE K g H Q R → r vs H R
/-- a context, and from where on it is looked at -/
structure CB where
  X : Cx
  g0 : G
  H0 : Hp
instance : Coe CB Cx := ⟨CB.X⟩
abbrev CB.K (X : CB) : KB := ⟨X.X.K, X.g0, X.H0⟩
abbrev CB.mg (X : CB) := X.X.mg
abbrev CB.env (X : CB) := X.X.env
abbrev CB.A (X : CB) := X.X.A
abbrev CB.N (X : CB) := X.X.N
abbrev CB.prog (X : CB) := X.X.prog
abbrev CB.w (X : CB) := X.X.w
abbrev CB.base (X : CB) := X.X.base
abbrev CB.calm (X : CB) := X.X.calm
abbrev CB.fn (X : CB) := X.X.fn
abbrev CB.xe (X : CB) := X.X.xe
/-- another context, seen from the same place -/
abbrev CB.to (X : CB) (Y : Cx) : CB := ⟨Y, X.g0, X.H0⟩
structure XE (X : CB) (e : Expr) (u : DE) : Prop where
  ex : ∃ t, PE X e t ∧ LE X.K t u
structure XT (X : CB) (e : Expr) (u : DT) : Prop where
  ex : ∃ t, PT X e t ∧ LT X.K t u
structure XW (X : CB) (e : Expr) (u : DT) : Prop where
  ex : ∃ t, PW X e t ∧ LT X.K t u
structure XA (X : CB) (e : List Expr) (u : DA) : Prop where
  ex : ∃ t, PA X e t ∧ LA X.K t u

/-! ### constants, names -/
def dC (d : D) : DE := fun _ M Q => Q d M
def dVar (i : Nat) : DE := fun ds M Q => match ds[i]? with
  | some (some d) => Q d M
  | _ => False
section
variable {X : CB} {a b c e : Expr} {ua ub uc ue : DE} {pos : Pos} {K : KB}
theorem le_c {v : V} {d : D} (h : ∀ g, RelD K g d v) : LE K (tC v) (dC d) := fun g H σ ds M r s Q q R k => k g H M d v (Gx.refl g H) r (h g) q
theorem xint {i : Int} {j pos} : XE X (.Constant (.int i) j pos) (dC (.int i)) := ⟨_, pe_int, le_c fun _ => .int i⟩
theorem xbl {b : Bool} {j pos} : XE X (.Constant (.bool b) j pos) (dC (.bl b)) := ⟨_, pe_bl, le_c fun _ => .bl b⟩
theorem xnon {j pos} : XE X (.Constant .none j pos) (dC .non) := ⟨_, pe_non, le_c fun _ => .non⟩
theorem xstr {x : Str} {j pos} : XE X (.Constant (.str x) j pos) (dC (.str x)) := ⟨_, pe_str, le_c fun _ => .str x⟩
theorem le_var {i : Nat} : LE K (tVar i) (dVar i) := fun g H σ ds M r s Q q R k => by
  unfold dVar at q
  split at q
  · rename_i d e
    obtain ⟨v, e1, e2⟩ := s.get i d e
    exact ⟨v, e1, k g H M d v (Gx.refl g H) r e2 q⟩
  · exact q.elim
theorem xv (i : Nat) {x : Str} {pos : Pos} (hN : X.N[i]? = some x := by rfl) (hv : Vis X.env.scope x := by first | exact Or.inl rfl | exact Or.inr (Or.inl rfl) | exact Or.inr (Or.inr rfl)) (hd : (x == ("__debug__" : Str)) = false := by decide)
    (hcd : (x == ("__classdict__" : Str)) = false := by decide) : XE X (.Name x pos) (dVar i) := ⟨_, pe_var hN hv hd hcd, le_var⟩
/-- a built-in type by its name -/
theorem xty {x : Str} {n : String} {pos : Pos} (hg : Gl X x) (hm : X.mg x = none) (hv : bootBuiltins x = some (.type n)) (hn : x ≠ "__name__" := by decide) (hd : (x == ("__debug__" : Str)) = false := by decide) : XE X (.Name x pos) (dC (.ty n)) :=
  ⟨_, pe_bltn (v := .ty n) hg hm hv rfl hn hd, le_c fun _ => .ty n⟩

/-! ### operators -/
def dOp (r : D2) (ua ub : DE) : DE := fun ds M Q => ua ds M fun x M1 => ub ds M1 fun y M2 => r x y M2 Q
def dUn (r : D1) (ua : DE) : DE := fun ds M Q => ua ds M fun x M1 => r x M1 Q
theorem le_op {r : R2} {u : D2} {ta tb : TE} (hr : LR K r u) (ha : LE K ta ua) (hb : LE K tb ub) : LE K (tOp r ta tb) (dOp u ua ub) := fun g H σ ds M r s Q q R k =>
  ha g H σ ds M r s _ q _ fun g1 H1 M1 x v x1 r1 rx q1 => hb g1 H1 σ ds M1 r1 (s.mono x1) _ q1 _ fun g2 H2 M2 y w x2 r2 ry q2 =>
    hr g2 H2 M2 x y v w r2 (rx.mono x2) ry Q q2 R fun g3 H3 M3 d z x3 r3 rz q3 => k g3 H3 M3 d z ((x1.trans x2).trans x3) r3 rz q3
theorem le_un {r : V → Hp → VK → Prop} {u : D1} {ta : TE} (hr : LU K r u) (ha : LE K ta ua) : LE K (tUn r ta) (dUn u ua) := fun g H σ ds M r s Q q R k =>
  ha g H σ ds M r s _ q _ fun g1 H1 M1 x v x1 r1 rx q1 => hr g1 H1 M1 x v r1 rx Q q1 R fun g3 H3 M3 d z x3 r3 rz q3 => k g3 H3 M3 d z (x1.trans x3) r3 rz q3
theorem OpR.or {X : Cx} {f : Value → Value → Sem Value} {r r' : R2} (h : OpR X f r) (h' : OpR X f r') : OpR X f (fun x y H Q => r x y H Q ∨ r' x y H Q) := by
  intro pins s σ H x y v u Q I rx ry q
  rcases q with q | q
  · exact h pins s σ H x y v u Q I rx ry q
  · exact h' pins s σ H x y v u Q I rx ry q
theorem CallR.or {X : Cx} {f : Value} {r r' : List V → Hp → VK → Prop} (h : CallR X f r) (h' : CallR X f r') : CallR X f (fun x H Q => r x H Q ∨ r' x H Q) := by
  intro pins s σ H xs us Q I rx q
  rcases q with q | q
  · exact h pins s σ H xs us Q I rx q
  · exact h' pins s σ H xs us Q I rx q
theorem xop {op : Operator} {r : R2} {u : D2} (ho : OpR X (binaryOp op) r) (hr : LR X.K r u) (ha : XE X a ua) (hb : XE X b ub) : XE X (.BinOp a op b pos) (dOp u ua ub) := by
  obtain ⟨ta, pa, la⟩ := ha.ex
  obtain ⟨tb, pb, lb⟩ := hb.ex
  exact ⟨_, pe_op ho pa pb, le_op hr la lb⟩
theorem xun {op : UnaryOp} {r : V → Hp → VK → Prop} {u : D1} (ho : UnR X (unaryOp op) r) (hr : LU X.K r u) (ha : XE X a ua) : XE X (.UnaryOp op a pos) (dUn u ua) := by
  obtain ⟨ta, pa, la⟩ := ha.ex
  exact ⟨_, pe_un ho pa, le_un hr la⟩
theorem xcmp {op : CmpOp} {r : R2} {u : D2} (ho : OpR X (compareOp op) r) (hr : LR X.K r u) (ha : XE X a ua) (hb : XE X b ub) (hm : behindInMarks op b = false := by first | exact nobehind _ (by decide) (by decide) | rfl) : XE X (.Compare a [op] [b] pos) (dOp u ua ub) := by
  obtain ⟨ta, pa, la⟩ := ha.ex
  obtain ⟨tb, pb, lb⟩ := hb.ex
  exact ⟨_, pe_cmpR ho pa pb hm, le_op hr la lb⟩
/-! ### tests -/
def dTest (u : DE) : DT := fun ds M Q => u ds M fun x M1 => match x with
  | .bl b => Q b M1
  | _ => False
theorem lt_test {t : TE} (h : LE K t ua) : LT K (tTest t) (dTest ua) := fun g H σ ds M r s Q q R k =>
  h g H σ ds M r s _ q _ fun g1 H1 M1 x v x1 r1 rx q1 => by
    cases rx with
    | bl b => exact ⟨b, rfl, k g1 H1 M1 b x1 r1 q1⟩
    | _ => exact q1.elim
theorem lt_B {t : TE} (h : LE K t ua) : LT K (tB t) (dTest ua) := fun g H σ ds M r s Q q R k =>
  h g H σ ds M r s _ q _ fun g1 H1 M1 x v x1 r1 rx q1 => by
    cases rx with
    | bl b => exact ⟨b, rfl, k g1 H1 M1 b x1 r1 q1⟩
    | _ => exact q1.elim
theorem tcmp {op : CmpOp} {r : R2} {u : D2} (ho : OpR X (compareOp op) r) (hr : LR X.K r u) (ha : XE X a ua) (hb : XE X b ub) (hm : behindInMarks op b = false := by first | exact nobehind _ (by decide) (by decide) | rfl) : XT X (.Compare a [op] [b] pos) (dTest (dOp u ua ub)) := by
  obtain ⟨ta, pa, la⟩ := ha.ex
  obtain ⟨tb, pb, lb⟩ := hb.ex
  exact ⟨_, pt_cmpR ho pa pb hm, lt_test (le_op hr la lb)⟩
def dChain (r r' : D2) (ua ub uc : DE) : DE := fun ds M Q => ua ds M fun x M1 => ub ds M1 fun y M2 => r x y M2 fun z M3 => match z with
  | .bl k => if k = true then uc ds M3 fun w M4 => r' y w M4 Q else Q (.bl false) M3
  | _ => False
theorem le_chain {r r' : R2} {u u' : D2} {ta tb tc : TE} (hr : LR K r u) (hr' : LR K r' u') (ha : LE K ta ua) (hb : LE K tb ub) (hc : LE K tc uc) : LE K (tChain r r' ta tb tc) (dChain u u' ua ub uc) := fun g H σ ds M rm s Q q R k =>
  ha g H σ ds M rm s _ q _ fun g1 H1 M1 x v x1 r1 rx q1 => hb g1 H1 σ ds M1 r1 (s.mono x1) _ q1 _ fun g2 H2 M2 y w x2 r2 ry q2 =>
    hr g2 H2 M2 x y v w r2 (rx.mono x2) ry _ q2 _ fun g3 H3 M3 d z x3 r3 rz q3 => by
      cases rz with
      | bl kk =>
        refine ⟨kk, rfl, ?_⟩
        cases kk with
        | true =>
          rw [if_pos rfl]
          have q3' : uc ds M3 fun w M4 => u' y w M4 Q := by simpa using q3
          exact hc g3 H3 σ ds M3 r3 (s.mono ((x1.trans x2).trans x3)) _ q3' _ fun g4 H4 M4 w' z' x4 r4 rw' q4 =>
            hr' g4 H4 M4 y w' w z' r4 (ry.mono (x3.trans x4)) rw' Q q4 R fun g5 H5 M5 d5 z5 x5 r5 rz5 q5 => k g5 H5 M5 d5 z5 ((((x1.trans x2).trans x3).trans x4).trans x5) r5 rz5 q5
        | false =>
          rw [if_neg Bool.false_ne_true]
          have q3' : Q (.bl false) M3 := by simpa using q3
          exact k g3 H3 M3 _ _ ((x1.trans x2).trans x3) r3 (.bl false) q3'
      | _ => exact q3.elim
theorem xchain {op op' : CmpOp} {r r' : R2} {u u' : D2} (ho : OpR X (compareOp op) r) (hr : LR X.K r u) (ho' : OpR X (compareOp op') r') (hr' : LR X.K r' u') (ha : XE X a ua) (hb : XE X b ub) (hc : XE X c uc)
    (hm : lastMarks [op, op'] [b, c] = false := by with_unfolding_all rfl) : XE X (.Compare a [op, op'] [b, c] pos) (dChain u u' ua ub uc) := by
  obtain ⟨ta, pa, la⟩ := ha.ex
  obtain ⟨tb, pb, lb⟩ := hb.ex
  obtain ⟨tc, pc, lc⟩ := hc.ex
  exact ⟨_, pe_chain ho ho' pa pb pc hm, le_chain hr hr' la lb lc⟩
theorem tchain {op op' : CmpOp} {r r' : R2} {u u' : D2} (ho : OpR X (compareOp op) r) (hr : LR X.K r u) (ho' : OpR X (compareOp op') r') (hr' : LR X.K r' u') (ha : XE X a ua) (hb : XE X b ub) (hc : XE X c uc)
    (hm : lastMarks [op, op'] [b, c] = false := by with_unfolding_all rfl) : XT X (.Compare a [op, op'] [b, c] pos) (dTest (dChain u u' ua ub uc)) := by
  obtain ⟨ta, pa, la⟩ := ha.ex
  obtain ⟨tb, pb, lb⟩ := hb.ex
  obtain ⟨tc, pc, lc⟩ := hc.ex
  exact ⟨_, pt_chain ho ho' pa pb pc hm, lt_test (le_chain hr hr' la lb lc)⟩
def dAnd (t u : DT) : DT := fun ds M Q => t ds M fun b M1 => if b = true then u ds M1 Q else Q false M1
def dOr (t u : DT) : DT := fun ds M Q => t ds M fun b M1 => if b = true then Q true M1 else u ds M1 Q
def dNot (t : DT) : DT := fun ds M Q => t ds M fun b M1 => Q (!b) M1
theorem lt_and {t t' : TT} {u u' : DT} (h : LT K t u) (h' : LT K t' u') : LT K (tAnd t t') (dAnd u u') := fun g H σ ds M r s Q q R k =>
  h g H σ ds M r s _ q _ fun g1 H1 M1 b x1 r1 q1 => by
    cases b with
    | true =>
      rw [if_pos rfl] at q1 ⊢
      exact h' g1 H1 σ ds M1 r1 (s.mono x1) _ q1 _ fun g2 H2 M2 b2 x2 r2 q2 => k g2 H2 M2 b2 (x1.trans x2) r2 q2
    | false =>
      rw [if_neg Bool.false_ne_true] at q1 ⊢
      exact k g1 H1 M1 false x1 r1 q1
theorem lt_or {t t' : TT} {u u' : DT} (h : LT K t u) (h' : LT K t' u') : LT K (tOr t t') (dOr u u') := fun g H σ ds M r s Q q R k =>
  h g H σ ds M r s _ q _ fun g1 H1 M1 b x1 r1 q1 => by
    cases b with
    | true =>
      rw [if_pos rfl] at q1 ⊢
      exact k g1 H1 M1 true x1 r1 q1
    | false =>
      rw [if_neg Bool.false_ne_true] at q1 ⊢
      exact h' g1 H1 σ ds M1 r1 (s.mono x1) _ q1 _ fun g2 H2 M2 b2 x2 r2 q2 => k g2 H2 M2 b2 (x1.trans x2) r2 q2
theorem lt_not {t : TT} {u : DT} (h : LT K t u) : LT K (tNot t) (dNot u) := fun g H σ ds M r s Q q R k =>
  h g H σ ds M r s _ q _ fun g1 H1 M1 b x1 r1 q1 => k g1 H1 M1 (!b) x1 r1 q1
variable {ut uu : DT} {rest : List Expr}
theorem wand1 (ha : XT X a ut) : XW X (.BoolOp .And [a] pos) ut := by
  obtain ⟨ta, pa, la⟩ := ha.ex
  exact ⟨_, pw_and1 pa, la⟩
theorem wor1 (ha : XT X a ut) : XW X (.BoolOp .Or [a] pos) ut := by
  obtain ⟨ta, pa, la⟩ := ha.ex
  exact ⟨_, pw_or1 pa, la⟩
theorem wand (ha : XT X a ut) (hb : XW X (.BoolOp .And (b :: rest) pos) uu) : XW X (.BoolOp .And (a :: b :: rest) pos) (dAnd ut uu) := by
  obtain ⟨ta, pa, la⟩ := ha.ex
  obtain ⟨tb, pb, lb⟩ := hb.ex
  exact ⟨_, pw_and pa pb, lt_and la lb⟩
theorem wor (ha : XT X a ut) (hb : XW X (.BoolOp .Or (b :: rest) pos) uu) : XW X (.BoolOp .Or (a :: b :: rest) pos) (dOr ut uu) := by
  obtain ⟨ta, pa, la⟩ := ha.ex
  obtain ⟨tb, pb, lb⟩ := hb.ex
  exact ⟨_, pw_or pa pb, lt_or la lb⟩
theorem tw (h : XW X a ut) : XT X a ut := by
  obtain ⟨ta, pa, la⟩ := h.ex
  exact ⟨_, pa.pt, la⟩
theorem tnot (ha : XT X a ut) : XT X (.UnaryOp .Not a pos) (dNot ut) := by
  obtain ⟨ta, pa, la⟩ := ha.ex
  exact ⟨_, pt_not pa, lt_not la⟩
/-- a value's truth, if it is a truth value -/
theorem tval (h : XE X e ue) (he : ∀ whole, isTrue e X.env whole = (do let v ← whole; standAt e.pos; holding [v] (truthy v)) := by intro _; rfl) : XT X e (dTest ue) := by
  obtain ⟨t, p, l⟩ := h.ex
  exact ⟨_, pt_val p he, lt_B l⟩
/-! values by and, or, not -/
def dAndV (ua ub : DE) : DE := fun ds M Q => ua ds M fun x M1 => match x with
  | .bl c => if c = true then ub ds M1 Q else Q (.bl false) M1
  | _ => False
def dOrV (ua ub : DE) : DE := fun ds M Q => ua ds M fun x M1 => match x with
  | .bl c => if c = true then Q (.bl true) M1 else ub ds M1 Q
  | _ => False
def dNotV (ua : DE) : DE := fun ds M Q => ua ds M fun x M1 => match x with
  | .bl c => Q (.bl (!c)) M1
  | _ => False
theorem xone {op} (h : XE X a ua) : XE X (.BoolOp op [a] pos) ua := by
  obtain ⟨ta, pa, la⟩ := h.ex
  exact ⟨_, pe_one pa, la⟩
theorem xand (ha : XE X a ua) (hb : XE X (.BoolOp .And (b :: rest) pos) ub) : XE X (.BoolOp .And (a :: b :: rest) pos) (dAndV ua ub) := by
  obtain ⟨ta, pa, la⟩ := ha.ex
  obtain ⟨tb, pb, lb⟩ := hb.ex
  refine ⟨_, pe_and pa pb, fun g H σ ds M r s Q q R k => la g H σ ds M r s _ q _ fun g1 H1 M1 x v x1 r1 rx q1 => ?_⟩
  cases rx with
  | bl c =>
    refine ⟨c, rfl, ?_⟩
    cases c with
    | true =>
      rw [if_pos rfl]
      have q1' : ub ds M1 Q := by simpa using q1
      exact lb g1 H1 σ ds M1 r1 (s.mono x1) _ q1' _ fun g2 H2 M2 d z x2 r2 rz q2 => k g2 H2 M2 d z (x1.trans x2) r2 rz q2
    | false =>
      rw [if_neg Bool.false_ne_true]
      exact k g1 H1 M1 _ _ x1 r1 (.bl false) (by simpa using q1)
  | _ => exact q1.elim
theorem xor_ (ha : XE X a ua) (hb : XE X (.BoolOp .Or (b :: rest) pos) ub) : XE X (.BoolOp .Or (a :: b :: rest) pos) (dOrV ua ub) := by
  obtain ⟨ta, pa, la⟩ := ha.ex
  obtain ⟨tb, pb, lb⟩ := hb.ex
  refine ⟨_, pe_or pa pb, fun g H σ ds M r s Q q R k => la g H σ ds M r s _ q _ fun g1 H1 M1 x v x1 r1 rx q1 => ?_⟩
  cases rx with
  | bl c =>
    refine ⟨c, rfl, ?_⟩
    cases c with
    | true =>
      rw [if_pos rfl]
      exact k g1 H1 M1 _ _ x1 r1 (.bl true) (by simpa using q1)
    | false =>
      rw [if_neg Bool.false_ne_true]
      have q1' : ub ds M1 Q := by simpa using q1
      exact lb g1 H1 σ ds M1 r1 (s.mono x1) _ q1' _ fun g2 H2 M2 d z x2 r2 rz q2 => k g2 H2 M2 d z (x1.trans x2) r2 rz q2
  | _ => exact q1.elim
theorem xnot (ha : XE X a ua) : XE X (.UnaryOp .Not a pos) (dNotV ua) := by
  obtain ⟨ta, pa, la⟩ := ha.ex
  refine ⟨_, pe_not pa, fun g H σ ds M r s Q q R k => la g H σ ds M r s _ q _ fun g1 H1 M1 x v x1 r1 rx q1 => ?_⟩
  cases rx with
  | bl c => exact ⟨c, rfl, k g1 H1 M1 _ _ x1 r1 (.bl _) q1⟩
  | _ => exact q1.elim
def dIf (t : DT) (ua ub : DE) : DE := fun ds M Q => t ds M fun b M1 => if b = true then ua ds M1 Q else ub ds M1 Q
theorem xif (hc : XT X c ut) (ha : XE X a ua) (hb : XE X b ub) : XE X (.IfExp c a b pos) (dIf ut ua ub) := by
  obtain ⟨tc, pc, lc⟩ := hc.ex
  obtain ⟨ta, pa, la⟩ := ha.ex
  obtain ⟨tb, pb, lb⟩ := hb.ex
  refine ⟨_, pe_ifExp pc pa pb, fun g H σ ds M r s Q q R k => lc g H σ ds M r s _ q _ fun g1 H1 M1 b x1 r1 q1 => ?_⟩
  cases b with
  | true =>
    rw [if_pos rfl] at q1 ⊢
    exact la g1 H1 σ ds M1 r1 (s.mono x1) _ q1 _ fun g2 H2 M2 d z x2 r2 rz q2 => k g2 H2 M2 d z (x1.trans x2) r2 rz q2
  | false =>
    rw [if_neg Bool.false_ne_true] at q1 ⊢
    exact lb g1 H1 σ ds M1 r1 (s.mono x1) _ q1 _ fun g2 H2 M2 d z x2 r2 rz q2 => k g2 H2 M2 d z (x1.trans x2) r2 rz q2
/-! ### arguments, displays -/
def dNil : DA := fun _ M Q => Q [] M
def dCons (ue : DE) (ur : DA) : DA := fun ds M Q => ue ds M fun x M1 => ur ds M1 fun xs M2 => Q (x :: xs) M2
variable {es : List Expr} {ur : DA}
theorem anil : XA X [] dNil := ⟨_, pa_nil, fun g H σ ds M r s Q q R k => k g H M [] [] (Gx.refl g H) r .nil q⟩
theorem acons (he : XE X e ue) (hr : XA X es ur) (hs : starEach (e :: es) X.env = (false, eval e X.env) :: starEach es X.env := by rfl) : XA X (e :: es) (dCons ue ur) := by
  obtain ⟨ta, pa, la⟩ := he.ex
  obtain ⟨tb, pb, lb⟩ := hr.ex
  exact ⟨_, pa_cons pa pb hs, fun g H σ ds M r s Q q R k => la g H σ ds M r s _ q _ fun g1 H1 M1 x v x1 r1 rx q1 => lb g1 H1 σ ds M1 r1 (s.mono x1) _ q1 _ fun g2 H2 M2 xs vs x2 r2 rz q2 =>
    k g2 H2 M2 _ _ (x1.trans x2) r2 (.cons (rx.mono x2) rz) q2⟩
def dTup (ur : DA) : DE := fun ds M Q => ur ds M fun xs M1 => xs.length ≤ sizeLine ∧ Q (.tup xs) M1
def dLst (ur : DA) : DE := fun ds M Q => ur ds M fun xs M1 => xs.length ≤ sizeLine ∧ Q (.lst xs) M1
/-- a list that is to be changed -/
def dNew (ur : DA) : DE := fun ds M Q => ur ds M fun xs M1 => xs.length ≤ sizeLine ∧ Q (.loc M1.length) (M1 ++ [.lst xs])
theorem newT {K : KB} {g : G} {H : Hp} {M : MM} {xs : List D} {vs : List V} {p : Addr} (r : RelM K g H M) (hx : RelL K g xs vs) (hp : H p = none) :
    ∃ g', Gx g H g' (upd H p (.tup vs)) ∧ RelM K g' (upd H p (.tup vs)) M ∧ RelD K g' (.tup xs) (.ref p) := by
  obtain ⟨x, r'⟩ := r.grow (o := .tup vs) hp
  exact ⟨_, x, r', .tup (.inl (.inl upd_same)) (hx.mono x)⟩
theorem newL {K : KB} {g : G} {H : Hp} {M : MM} {xs : List D} {vs : List V} {p : Addr} (r : RelM K g H M) (hx : RelL K g xs vs) (hp : H p = none) :
    ∃ g', Gx g H g' (upd H p (.lst vs)) ∧ RelM K g' (upd H p (.lst vs)) M ∧ RelD K g' (.lst xs) (.ref p) := by
  obtain ⟨x, r'⟩ := r.grow (o := .lst vs) hp
  exact ⟨_, x, r', .lst (.inl upd_same) (hx.mono x)⟩
theorem newM {K : KB} {g : G} {H : Hp} {M : MM} {xs : List D} {vs : List V} {p : Addr} (r : RelM K g H M) (hx : RelL K g xs vs) (hp : H p = none) :
    ∃ g', Gx g H g' (upd H p (.lst vs)) ∧ RelM K g' (upd H p (.lst vs)) (M ++ [.lst xs]) ∧ RelD K g' (.loc M.length) (.ref p) := by
  obtain ⟨x, r', e⟩ := r.push (o := .lst vs) (mo := .lst xs) hp fun g' x f => ⟨f, vs, upd_same, hx.mono x⟩
  exact ⟨_, x, r', .loc e⟩
theorem xtup {x1} (h : XA X es ur) : XE X (.Tuple es x1 pos) (dTup ur) := by
  obtain ⟨t, p, l⟩ := h.ex
  refine ⟨_, pe_tup p, fun g H σ ds M r s Q q R k => l g H σ ds M r s _ q _ fun g1 H1 M1 xs vs x1 r1 rx q1 => ⟨by rw [← rx.len]; exact q1.1, fun p hp => ?_⟩⟩
  obtain ⟨g2, x2, r2, rd⟩ := newT r1 rx hp
  exact k g2 _ M1 _ _ (x1.trans x2) r2 rd q1.2
theorem xlst (h : XA X es ur) : XE X (.List es pos) (dLst ur) := by
  obtain ⟨t, p, l⟩ := h.ex
  refine ⟨_, pe_lst p, fun g H σ ds M r s Q q R k => l g H σ ds M r s _ q _ fun g1 H1 M1 xs vs x1 r1 rx q1 => ⟨by rw [← rx.len]; exact q1.1, fun p hp => ?_⟩⟩
  obtain ⟨g2, x2, r2, rd⟩ := newL r1 rx hp
  exact k g2 _ M1 _ _ (x1.trans x2) r2 rd q1.2
theorem xnew (h : XA X es ur) : XE X (.List es pos) (dNew ur) := by
  obtain ⟨t, p, l⟩ := h.ex
  refine ⟨_, pe_lst p, fun g H σ ds M r s Q q R k => l g H σ ds M r s _ q _ fun g1 H1 M1 xs vs x1 r1 rx q1 => ⟨by rw [← rx.len]; exact q1.1, fun p hp => ?_⟩⟩
  obtain ⟨g2, x2, r2, rd⟩ := newM r1 rx hp
  exact k g2 _ _ _ _ (x1.trans x2) r2 rd q1.2
/-- what is a new list that stands for good may as well be one that is to be changed: the value is a fresh one; and back -/
def dFrz (ue : DE) : DE := fun ds M Q => ue ds M fun x M1 => match x with
  | .loc n => match M1[n]? with
    | some (.lst xs) => Q (.lst xs) (M1.set n .gone)
    | _ => False
  | .lst xs => Q (.lst xs) M1
  | _ => False
theorem le_frz {t : TE} (h : LE K t ue) : LE K t (dFrz ue) := fun g H σ ds M r s Q q R k => h g H σ ds M r s _ q _ fun g1 H1 M1 x v x1 r1 rx q1 => by
  cases rx with
  | loc h1 =>
    rename_i n p
    simp only at q1
    split at q1
    · rename_i xs e
      obtain ⟨g2, x2, r2, rd⟩ := r1.freeze h1 e
      exact k g2 H1 _ _ _ (x1.trans x2) r2 rd q1
    · exact q1.elim
  | lst h1 h2 => exact k g1 H1 _ _ _ x1 r1 (.lst h1 h2) q1
  | _ => exact q1.elim
theorem xfrz (h : XE X e ue) : XE X e (dFrz ue) := by
  obtain ⟨t, p, l⟩ := h.ex
  exact ⟨_, p, le_frz l⟩
end
end AX

namespace AX
open PySem L2
/-! ### lists to be read: of the store, or standing for good -/
def seqOf (M : MM) : D → Option (List D)
  | .lst xs => some xs
  | .loc n => match M[n]? with
    | some (.lst xs) => some xs
    | _ => none
  | _ => none
section
variable {K : KB} {g : G} {H : Hp} {M : MM} {x y : D} {v w : V} {xs ys : List D}
theorem seq_rel (r : RelM K g H M) (h : RelD K g x v) (e : seqOf M x = some xs) : ∃ p vs, v = .ref p ∧ Rd H p (.lst vs) ∧ RelL K g xs vs := by
  cases h with
  | lst h r' =>
    have e' := Option.some.inj e
    subst e'
    exact ⟨_, _, rfl, same_rd r.ex h, r'⟩
  | loc h =>
    rename_i n p
    have e' : (match M[n]? with | some (MO.lst xs) => some xs | _ => none) = some xs := e
    split at e'
    · rename_i ys q
      have e2 := Option.some.inj e'
      subst e2
      obtain ⟨_, vs, hv, rl⟩ := r.ob n p _ h q
      exact ⟨p, vs, rfl, .inl hv, rl⟩
    · cases e'
  | _ => cases e
/-- a list of the store as a value -/
def D.res (M : MM) : D → D
  | .loc n => match M[n]? with
    | some (.lst xs) => .lst xs
    | _ => .loc n
  | d => d
theorem res_dp (r : RelM K g H M) (h : RelD K g x v) (e : (x.res M).pure = true) : Dp K H v (x.res M).py := by
  cases h with
  | loc h =>
    rename_i n p
    unfold D.res at e ⊢
    simp only at e ⊢
    split at e
    · rename_i ys q
      obtain ⟨_, vs, hv, rl⟩ := r.ob n p _ h q
      exact .lst (.inl (.inl hv)) (rl.dp r.ex (by simpa only [D.pure] using e))
    · simp [D.pure] at e
  | non => exact RelD.dp (g := g) r.ex .non e
  | bl b => exact RelD.dp (g := g) r.ex (.bl b) e
  | int b => exact RelD.dp (g := g) r.ex (.int b) e
  | str b => exact RelD.dp (g := g) r.ex (.str b) e
  | ty b => exact RelD.dp (g := g) r.ex (.ty b) e
  | scr h q => simp [D.pure, D.res] at e
  | exn h => simp [D.pure, D.res] at e
  | dct h hl q => simp [D.pure, D.res] at e
  | lst h q => exact RelD.dp (g := g) r.ex (.lst h q) e
  | tup h q => exact RelD.dp (g := g) r.ex (.tup h q) e
end
/-! ### ints -/
section
variable {K : KB} {X : CB}
def dI2 (f : Int → Int → D) : D2 := fun x y M Q => match x with
  | .int i => match y with
    | .int j => Q (f i j) M
    | _ => False
  | _ => False
def dI2C (C : Int → Int → Prop) (f : Int → Int → D) : D2 := fun x y M Q => match x with
  | .int i => match y with
    | .int j => C i j ∧ Q (f i j) M
    | _ => False
  | _ => False
theorem lr_i0 {f : Int → Int → V} {f' : Int → Int → D} (h : ∀ g i j, RelD K g (f' i j) (f i j)) : LR K (rI0 f) (dI2 f') := fun g H M x y v w r rx ry Q q R k => by
  cases rx with
  | int i => cases ry with
    | int j => exact ⟨i, j, rfl, rfl, k g H M _ _ (Gx.refl g H) r (h g i j) q⟩
    | _ => exact q.elim
  | _ => exact q.elim
theorem lr_i {C : Int → Int → Prop} {f : Int → Int → V} {f' : Int → Int → D} (h : ∀ g i j, RelD K g (f' i j) (f i j)) : LR K (rI C f) (dI2C C f') := fun g H M x y v w r rx ry Q q R k => by
  cases rx with
  | int i => cases ry with
    | int j => exact ⟨i, j, rfl, rfl, q.1, k g H M _ _ (Gx.refl g H) r (h g i j) q.2⟩
    | _ => exact q.elim
  | _ => exact q.elim
abbrev dSub : D2 := dI2 fun i j => .int (i - j)
abbrev dFdiv : D2 := dI2C (fun _ j => 0 < j ∧ j.natAbs.log2 < 9000) fun i j => .int (i / j)
abbrev dMod : D2 := dI2C (fun _ j => 0 < j) fun i j => .int (i % j)
abbrev dPow : D2 := dI2C CPow fun i j => .int (i ^ j.toNat)
abbrev dShl : D2 := dI2C CPow fun i j => .int (i * 2 ^ j.toNat)
abbrev dShr : D2 := dI2C (fun _ j => 0 ≤ j) fun i j => .int (i / 2 ^ j.toNat)
abbrev dBand : D2 := dI2 fun i j => .int (Builtin.bitAnd i j)
abbrev dBor : D2 := dI2 fun i j => .int (Builtin.bitOr i j)
abbrev dBxor : D2 := dI2 fun i j => .int (Builtin.bitXor i j)
abbrev dLt : D2 := dI2 fun i j => .bl (decide (i < j))
abbrev dLe : D2 := dI2 fun i j => .bl (decide (i ≤ j))
abbrev dGt : D2 := dI2 fun i j => .bl (decide (j < i))
abbrev dGe : D2 := dI2 fun i j => .bl (decide (j ≤ i))
theorem lrSub : LR K (rI0 fun i j => .int (i - j)) dSub := lr_i0 fun _ _ _ => .int _
theorem lrFdiv : LR K (rI CDivW fun i j => .int (i / j)) dFdiv := lr_i fun _ _ _ => .int _
theorem lrMod : LR K (rI (fun _ j => 0 < j) fun i j => .int (i % j)) dMod := lr_i fun _ _ _ => .int _
theorem lrPow : LR K (rI CPow fun i j => .int (i ^ j.toNat)) dPow := lr_i fun _ _ _ => .int _
theorem lrShl : LR K (rI CPow fun i j => .int (i * 2 ^ j.toNat)) dShl := lr_i fun _ _ _ => .int _
theorem lrShr : LR K (rI (fun _ j => 0 ≤ j) fun i j => .int (i / 2 ^ j.toNat)) dShr := lr_i fun _ _ _ => .int _
theorem lrBand : LR K (rI0 fun i j => .int (Builtin.bitAnd i j)) dBand := lr_i0 fun _ _ _ => .int _
theorem lrBor : LR K (rI0 fun i j => .int (Builtin.bitOr i j)) dBor := lr_i0 fun _ _ _ => .int _
theorem lrBxor : LR K (rI0 fun i j => .int (Builtin.bitXor i j)) dBxor := lr_i0 fun _ _ _ => .int _
theorem lrLt : LR K (rI0 fun i j => .bl (decide (i < j))) dLt := lr_i0 fun _ _ _ => .bl _
theorem lrLe : LR K (rI0 fun i j => .bl (decide (i ≤ j))) dLe := lr_i0 fun _ _ _ => .bl _
theorem lrGt : LR K (rI0 fun i j => .bl (decide (j < i))) dGt := lr_i0 fun _ _ _ => .bl _
theorem lrGe : LR K (rI0 fun i j => .bl (decide (j ≤ i))) dGe := lr_i0 fun _ _ _ => .bl _
abbrev dNeg : D1 := fun x M Q => match x with
  | .int i => Q (.int (-i)) M
  | _ => False
theorem luNeg : LU K (rU fun i => .int (-i)) dNeg := fun g H M x v r rx Q q R k => by
  cases rx with
  | int i => exact ⟨i, rfl, k g H M _ _ (Gx.refl g H) r (.int _) q⟩
  | _ => exact q.elim
/-! ### + and * -/
def rCatS (K : PySem.W.Frag) : R2 := fun x y H Q => ∃ l b xs zs, x = .ref l ∧ y = .ref b ∧ SqL K H l xs ∧ SqL K H b zs ∧ xs.length + zs.length ≤ sizeLine ∧ ∀ p, H p = none → Q (.ref p) (upd H p (.lst (xs ++ zs)))
theorem op_catS : OpR X (binaryOp .Add) (rCatS X.K) := by
  intro pins s σ H x y v u Q I rx ry h
  obtain ⟨l, b, xs, zs, rfl, rfl, hH, hB, hz, q⟩ := h
  cases rx
  cases ry
  obtain ⟨its, r, e, _⟩ := I.list hH
  obtain ⟨its2, r2, e2, _⟩ := I.list hB
  have h1 := r.length
  have h2 := r2.length
  obtain ⟨⟨cls, dd, data, sl⟩, n, ho, hc, hx, hd⟩ := e
  obtain ⟨⟨cls2, dd2, data2, sl2⟩, n2, ho2, hc2, hx2, hd2⟩ := e2
  simp only at hc hd hc2 hd2
  subst hc hd hc2 hd2
  have ea : its.toArray ++ its2.toArray = (its ++ its2).toArray := by simp
  refine PySem.concat_meets ⟨_, ho, rfl⟩ ⟨_, ho2, rfl⟩ PySem.noFill_list_add PySem.seq_list_add PySem.F.slot_list_add PySem.F.entry_list_add (PySem.F.args_list_add_2 _ _) (PyProof.Rows.list_addW l b its.toArray its2.toArray n n2 dd dd2 sl sl2 (by simp only [List.size_toArray]; omega)) ⟨ho, ho2, ?_⟩
  rw [ea]
  exact ⟨.ref _, _, I.lnew (t' := s.toks) (r.append r2) (by rw [List.length_append]; omega), rfl, q _ I.fresh⟩
def addL (xs : List D) (y : D) (M : MM) (Q : DK) : Prop := match seqOf M y with
  | some ys => xs.length + ys.length ≤ sizeLine ∧ Q (.lst (xs ++ ys)) M
  | none => False
def dAdd : D2 := fun x y M Q => match x with
  | .int i => match y with
    | .int j => Q (.int (i + j)) M
    | _ => False
  | .str a => match y with
    | .str b => a.length + b.length ≤ sizeLine ∧ Q (.str (a ++ b)) M
    | _ => False
  | .tup xs => match y with
    | .tup ys => xs.length + ys.length ≤ sizeLine ∧ Q (.tup (xs ++ ys)) M
    | _ => False
  | .lst xs => addL xs y M Q
  | .loc n => match M[n]? with
    | some (.lst xs) => addL xs y M Q
    | _ => False
  | _ => False
def rAddD (K : PySem.W.Frag) : R2 := fun x y H Q => rI0 (fun i j => .int (i + j)) x y H Q ∨ (∃ i j, x = .str i ∧ y = .str j ∧ i.length + j.length ≤ sizeLine ∧ Q (.str (i ++ j)) H) ∨ rCatS K x y H Q ∨ rCatA K x y H Q
theorem oAdd : OpR X (binaryOp .Add) (rAddD X.K) := OpR.or op_add (OpR.or op_add_str (OpR.or op_catS op_catA))
theorem addL_ok {g : G} {H : Hp} {M : MM} {x y : D} {v w : V} {xs : List D} {Q : DK} {R : VK} (r : RelM K g H M) (rx : RelD K g x v) (ex : seqOf M x = some xs) (ry : RelD K g y w) (q : addL xs y M Q) (k : PostE K g H Q R) : rCatS K v w H R := by
  unfold addL at q
  split at q
  · rename_i ys ey
    obtain ⟨p, vs, rfl, hp, rl⟩ := seq_rel r rx ex
    obtain ⟨p2, ws, rfl, hp2, rl2⟩ := seq_rel r ry ey
    refine ⟨p, p2, vs, ws, rfl, rfl, .inl hp, .inl hp2, by rw [← rl.len, ← rl2.len]; exact q.1, fun z hz => ?_⟩
    obtain ⟨g2, x2, r2, rd⟩ := newL r (rl.app rl2) hz
    exact k g2 _ M _ _ x2 r2 rd q.2
  · exact q.elim
theorem lrAdd : LR K (rAddD K) dAdd := fun g H M x y v w r rx ry Q q R k => by
  cases rx with
  | int i => cases ry with
    | int j => exact .inl ⟨i, j, rfl, rfl, k g H M _ _ (Gx.refl g H) r (.int _) q⟩
    | _ => exact q.elim
  | str i => cases ry with
    | str j => exact .inr (.inl ⟨i, j, rfl, rfl, q.1, k g H M _ _ (Gx.refl g H) r (.str _) q.2⟩)
    | _ => exact q.elim
  | tup h1 r1 => cases ry with
    | tup h2 r2 =>
      refine .inr (.inr (.inr ⟨_, _, _, _, rfl, rfl, same_t r.ex h1, same_t r.ex h2, by rw [← r1.len, ← r2.len]; exact q.1, fun z => ?_, fun _ z => ?_, fun _ _ p hp => ?_⟩))
      · have e : RelL K g _ _ := r1
        rw [z] at e
        cases e
        have q2 := q.2
        rw [List.nil_append] at q2
        exact k g H M _ _ (Gx.refl g H) r (.tup h2 r2) q2
      · have e : RelL K g _ _ := r2
        rw [z] at e
        cases e
        have q2 := q.2
        rw [List.append_nil] at q2
        exact k g H M _ _ (Gx.refl g H) r (.tup h1 r1) q2
      · obtain ⟨g2, x2, r3, rd⟩ := newT r (r1.app r2) hp
        exact k g2 _ M _ _ x2 r3 rd q.2
    | _ => exact q.elim
  | lst h1 r1 => exact .inr (.inr (.inl (addL_ok r (.lst h1 r1) rfl ry q k)))
  | loc h1 =>
    rename_i n p
    unfold dAdd at q
    simp only at q
    split at q
    · rename_i xs e
      exact .inr (.inr (.inl (addL_ok r (.loc h1) (by unfold seqOf; simp only [e]) ry q k)))
    · exact q.elim
  | _ => exact q.elim
def rRepS (K : PySem.W.Frag) : R2 := fun x y H Q => ∃ l k xs, x = .ref l ∧ y = .int k ∧ H l = some (.lst xs) ∧ -(2 ^ 63) ≤ k ∧ k < 2 ^ 63 ∧ xs.length * k.toNat ≤ sizeLine ∧
  ∀ p, H p = none → Q (.ref p) (upd H p (.lst (List.replicate k.toNat xs).flatten))
def dMul : D2 := fun x y M Q => match x with
  | .int i => match y with
    | .int j => (i.natAbs.log2 + j.natAbs.log2 < 1000000) ∧ Q (.int (i * j)) M
    | _ => False
  | _ => False
theorem lrMul : LR K (rI CMulW fun i j => .int (i * j)) dMul := fun g H M x y v w r rx ry Q q R k => by
  cases rx with
  | int i => cases ry with
    | int j => exact ⟨i, j, rfl, rfl, q.1, k g H M _ _ (Gx.refl g H) r (.int _) q.2⟩
    | _ => exact q.elim
  | _ => exact q.elim
/-! ### == -/
def rEqP (K : PySem.W.Frag) : R2 := fun x y H Q => ∃ d e, Dp K H x d ∧ Dp K H y e ∧ d.plain = true ∧ e.plain = true ∧ d.depth ≤ 60 ∧ Q (.bl (PyData.eqv d e)) H
def rNeP (K : PySem.W.Frag) : R2 := fun x y H Q => ∃ d e, Dp K H x d ∧ Dp K H y e ∧ d.plain = true ∧ e.plain = true ∧ d.depth ≤ 60 ∧ Q (.bl (!PyData.eqv d e)) H
theorem oEq (hu : X.X.A.units + 64 < cLine) : OpR X (compareOp .Eq) (rEqP X.K) := by
  intro pins s σ H x y v u Q I rx ry h
  obtain ⟨d, e, hd, he, sd, se, hh, q⟩ := h
  obtain ⟨as, r1⟩ := Dp.reads I d x v hd rx
  obtain ⟨bs, r2⟩ := Dp.reads I e y u he ry
  have hm := Nat.min_le_left d.depth e.depth
  exact PySem.SeqAt.eq_plain r1 r2 sd se (by omega) ⟨.bl _, H, I, rfl, q⟩
theorem oNe (hu : X.X.A.units + 64 < cLine) : OpR X (compareOp .NotEq) (rNeP X.K) := by
  intro pins s σ H x y v u Q I rx ry h
  obtain ⟨d, e, hd, he, sd, se, hh, q⟩ := h
  obtain ⟨as, r1⟩ := Dp.reads I d x v hd rx
  obtain ⟨bs, r2⟩ := Dp.reads I e y u he ry
  have hm := Nat.min_le_left d.depth e.depth
  exact PySem.SeqAt.ne_plain r1 r2 sd se (by omega) ⟨.bl _, H, I, rfl, q⟩
def eqG (x y : D) (M : MM) (Q : Bool → Prop) : Prop := (x.res M).pure = true ∧ (y.res M).pure = true ∧ (x.res M).depth ≤ 60 ∧ Q (D.eqv (x.res M) (y.res M))
def dEq : D2 := fun x y M Q => match x with
  | .int i => match y with
    | .int j => Q (.bl (decide (i = j))) M
    | y => eqG (.int i) y M fun b => Q (.bl b) M
  | x => eqG x y M fun b => Q (.bl b) M
def dNe : D2 := fun x y M Q => match x with
  | .int i => match y with
    | .int j => Q (.bl (!decide (i = j))) M
    | y => eqG (.int i) y M fun b => Q (.bl (!b)) M
  | x => eqG x y M fun b => Q (.bl (!b)) M
theorem eqG_of {x y : D} {M : MM} {Q : DK} (h : dEq x y M Q) : eqG x y M fun b => Q (.bl b) M := by
  unfold dEq at h
  split at h
  · split at h
    · refine ⟨rfl, rfl, Nat.zero_le _, ?_⟩
      rw [show D.eqv (D.res M (.int _)) (D.res M (.int _)) = decide (_ = _) by simp only [D.res, D.eqv]; exact Bool.beq_eq_decide_eq _ _]
      exact h
    · exact h
  · exact h
theorem neG_of {x y : D} {M : MM} {Q : DK} (h : dNe x y M Q) : eqG x y M fun b => Q (.bl (!b)) M := by
  unfold dNe at h
  split at h
  · split at h
    · refine ⟨rfl, rfl, Nat.zero_le _, ?_⟩
      rw [show D.eqv (D.res M (.int _)) (D.res M (.int _)) = decide (_ = _) by simp only [D.res, D.eqv]; exact Bool.beq_eq_decide_eq _ _]
      exact h
    · exact h
  · exact h
theorem lrEq : LR K (rEqP K) dEq := fun g H M x y v w r rx ry Q q R k => by
  obtain ⟨p1, p2, dd, q⟩ := eqG_of q
  exact ⟨_, _, res_dp r rx p1, res_dp r ry p2, D.py_plain _, D.py_plain _, by rw [D.py_depth]; exact dd, by
    rw [D.eqv_py _ _ p1 p2]
    exact k g H M _ _ (Gx.refl g H) r (.bl _) q⟩
theorem lrNe : LR K (rNeP K) dNe := fun g H M x y v w r rx ry Q q R k => by
  obtain ⟨p1, p2, dd, q⟩ := neG_of q
  exact ⟨_, _, res_dp r rx p1, res_dp r ry p2, D.py_plain _, D.py_plain _, by rw [D.py_depth]; exact dd, by
    rw [D.eqv_py _ _ p1 p2]
    exact k g H M _ _ (Gx.refl g H) r (.bl _) q⟩
/-! ### is None -/
def D.isNon : D → Bool
  | .non => true
  | _ => false
theorem isNon_rel {g : G} {x : D} {v : V} (h : RelD K g x v) : decide (v = .non) = x.isNon := by
  cases h <;> simp [D.isNon]
def dIs : D2 := fun x y M Q => match y with
  | .non => Q (.bl x.isNon) M
  | _ => False
def dIsNot : D2 := fun x y M Q => match y with
  | .non => Q (.bl (!x.isNon)) M
  | _ => False
theorem lrIs : LR K (fun x y H Q => y = .non ∧ Q (.bl (decide (x = .non))) H) dIs := fun g H M x y v w r rx ry Q q R k => by
  cases ry with
  | non => exact ⟨rfl, by rw [isNon_rel rx]; exact k g H M _ _ (Gx.refl g H) r (.bl _) q⟩
  | _ => exact q.elim
theorem lrIsNot : LR K (fun x y H Q => y = .non ∧ Q (.bl (!decide (x = .non))) H) dIsNot := fun g H M x y v w r rx ry Q q R k => by
  cases ry with
  | non => exact ⟨rfl, by rw [isNon_rel rx]; exact k g H M _ _ (Gx.refl g H) r (.bl _) q⟩
  | _ => exact q.elim
/-! ### dicts of the store -/
def dlook {κ β : Type} [DecidableEq κ] (kvs : List (κ × β)) (k : κ) : Option β := (kvs.find? fun kv => decide (kv.1 = k)).map (·.2)
def dput {κ β : Type} [DecidableEq κ] (kvs : List (κ × β)) (k : κ) (v : β) : List (κ × β) :=
  if (kvs.any fun kv => decide (kv.1 = k)) = true then kvs.map fun kv => if kv.1 = k then (kv.1, v) else kv else kvs ++ [(k, v)]
def dkey : D → Option Key
  | .int i => some (.inl i)
  | .str x => some (.inr x)
  | _ => none
theorem dkey_rel {g : G} {d : D} {v : V} {k : Key} (h : RelD K g d v) (e : dkey d = some k) : v = kV k := by
  cases h <;> first
    | (cases e; done)
    | (have e' := Option.some.inj e; subst e'; rfl)
theorem RelP.val {g : G} {κ : Type} [DecidableEq κ] {k : κ} : ∀ {ds : List (κ × D)} {vs : List (κ × V)}, RelP K g ds vs → (dlook ds k = none ∧ valV vs k = none) ∨ ∃ d v, dlook ds k = some d ∧ valV vs k = some v ∧ RelD K g d v
  | _, _, .nil => .inl ⟨rfl, rfl⟩
  | _, _, .cons (k := j) (d := d) (v := v) (ds := ds) (vs := vs) h r => by
    by_cases e : j = k
    · exact .inr ⟨d, v, by simp [dlook, List.find?_cons, e], valV_pos e, h⟩
    · rw [valV_neg e, show dlook ((j, d) :: ds) k = dlook ds k by simp [dlook, List.find?_cons, e]]
      exact RelP.val r
theorem RelP.any {g : G} {κ : Type} [DecidableEq κ] {k : κ} : ∀ {ds : List (κ × D)} {vs : List (κ × V)}, RelP K g ds vs → (ds.any fun kv => decide (kv.1 = k)) = vs.any fun kv => decide (kv.1 = k)
  | _, _, .nil => rfl
  | _, _, .cons h r => by rw [List.any_cons, List.any_cons, RelP.any r]
theorem RelP.snoc {g : G} {κ : Type} {k : κ} {d : D} {v : V} (h : RelD K g d v) : ∀ {ds : List (κ × D)} {vs : List (κ × V)}, RelP K g ds vs → RelP K g (ds ++ [(k, d)]) (vs ++ [(k, v)])
  | _, _, .nil => .cons h .nil
  | _, _, .cons q r => .cons q (r.snoc h)
theorem RelP.repl {g : G} {κ : Type} [DecidableEq κ] {k : κ} {d : D} {v : V} (h : RelD K g d v) : ∀ {ds : List (κ × D)} {vs : List (κ × V)}, RelP K g ds vs → RelP K g (ds.map fun kv => if kv.1 = k then (kv.1, d) else kv) (vs.map fun kv => if kv.1 = k then (kv.1, v) else kv)
  | _, _, .nil => .nil
  | _, _, .cons (k := j) q r => by
    rw [List.map_cons, List.map_cons]
    by_cases e : j = k
    · rw [if_pos e, if_pos e]
      exact .cons h (r.repl h)
    · rw [if_neg e, if_neg e]
      exact .cons q (r.repl h)
theorem RelP.put {g : G} {κ : Type} [DecidableEq κ] {k : κ} {d : D} {v : V} (h : RelD K g d v) {ds : List (κ × D)} {vs : List (κ × V)} (r : RelP K g ds vs) : RelP K g (dput ds k d) (putK vs k v) := by
  unfold dput putK
  rw [r.any (k := k)]
  split
  · exact r.repl h
  · exact r.snoc h
theorem length_put {κ β : Type} [DecidableEq κ] (kvs : List (κ × β)) (k : κ) (v : β) : (dput kvs k v).length ≤ kvs.length + 1 := by
  unfold dput
  split
  · rw [List.length_map]; omega
  · rw [List.length_append]; simp
/-! ### subscripts -/
theorem ix_dict (hu : X.X.A.units + 64 < cLine) : IxR X (fun x y H Q => ∃ a v, x = .ref a ∧ DGet H a y (some v) ∧ Q v H) := by
  intro value slice pins s σ H x y v u Q I rx ry h hs
  obtain ⟨a, z, rfl, hd, q⟩ := h
  cases rx
  exact PyProof.Rows.tail_any (dict_typeIs I hd) PySem.F.slot_dict_getitem.lookup (d_getItem (Nat.lt_of_le_of_lt (Nat.add_le_add_left (by decide : 1 ≤ 64) _) hu) I hd ry fun w' s3 I3 rw' => ⟨z, H, I3, rw', q⟩) hs
def rIxD (K : PySem.W.Frag) : R2 := fun x y H Q => rIx K x y H Q ∨ ∃ a v, x = .ref a ∧ DGet H a y (some v) ∧ Q v H
theorem oIx (hu : X.X.A.units + 64 < cLine) : IxR X (rIxD X.K) := IxR.or ix_seq (ix_dict hu)
def ixL (xs : List D) (y : D) (M : MM) (Q : DK) : Prop := match y with
  | .int i => match atI xs i with
    | some d => Q d M
    | none => False
  | _ => False
def dIx : D2 := fun x y M Q => match x with
  | .lst xs => ixL xs y M Q
  | .tup xs => ixL xs y M Q
  | .str z => match y with
    | .int i => z.length ≤ sizeLine ∧ match atI z.cps.toList i with
      | some c => Q (.str ⟨#[c]⟩) M
      | none => False
    | _ => False
  | .loc n => match M[n]? with
    | some (.lst xs) => ixL xs y M Q
    | some (.dic kvs) => match dkey y with
      | some k => match dlook kvs k with
        | some d => Q d M
        | none => False
      | none => False
    | some (.fdic _ _ kvs) => match dkey y with
      | some k => match dlook kvs k with
        | some d => Q d M
        | none => False
      | none => False
    | _ => False
  | _ => False
theorem atI_rel {g : G} {xs : List D} {vs : List V} {i : Int} {d : D} (r : RelL K g xs vs) (h : atI xs i = some d) : ∃ v, atI vs i = some v ∧ RelD K g d v := by
  unfold atI at h ⊢
  rw [← r.len]
  cases e : ixN xs.length i with
  | none =>
    rw [e] at h
    cases h
  | some j =>
    rw [e] at h
    exact r.got h
theorem ixL_ok {g : G} {H : Hp} {M : MM} {p : Addr} {vs : List V} {y : D} {w : V} {xs : List D} {Q : DK} {R : VK} (r : RelM K g H M) (hp : SqL K H p vs) (rl : RelL K g xs vs) (ry : RelD K g y w) (q : ixL xs y M Q) (k : PostE K g H Q R) : rIxL K (.ref p) w H R := by
  unfold ixL at q
  split at q
  · rename_i i
    split at q
    · rename_i d e
      obtain ⟨v, ev, rv⟩ := atI_rel rl e
      cases ry
      exact ⟨p, vs, i, v, rfl, rfl, hp, ev, k g H M _ _ (Gx.refl g H) r rv q⟩
    · exact q.elim
  · exact q.elim
theorem lrIx : LR K (rIxD K) dIx := fun g H M x y v w r rx ry Q q R k => by
  cases rx with
  | lst h1 r1 => exact .inl (.inl (ixL_ok r (.inl (same_rd r.ex h1)) r1 ry q k))
  | tup h1 r1 =>
    have q' : ixL _ y M Q := q
    unfold ixL at q'
    split at q'
    · rename_i i
      split at q'
      · rename_i d e
        obtain ⟨v, ev, rv⟩ := atI_rel r1 e
        cases ry
        exact .inl (.inr (.inl ⟨_, _, i, v, rfl, rfl, same_t r.ex h1, ev, k g H M _ _ (Gx.refl g H) r rv q'⟩))
      · exact q'.elim
    · exact q'.elim
  | str z =>
    cases ry with
    | int i =>
      obtain ⟨hz, q⟩ := q
      split at q
      · rename_i c e
        exact .inl (.inr (.inr ⟨z, i, c, rfl, rfl, hz, e, k g H M _ _ (Gx.refl g H) r (.str _) q⟩))
      · exact q.elim
    | _ => exact q.elim
  | loc h1 =>
    rename_i n p
    unfold dIx at q
    simp only at q
    split at q
    · rename_i xs e
      obtain ⟨_, vs, hv, rl⟩ := r.ob n p _ h1 e
      exact .inl (.inl (ixL_ok r (.inl (.inl hv)) rl ry q k))
    · rename_i kvs e
      obtain ⟨_, vs, hv, rl⟩ := r.ob n p _ h1 e
      split at q
      · rename_i kk ek
        split at q
        · rename_i d ed
          rcases rl.val (k := kk) with ⟨z, _⟩ | ⟨d', v', z1, z2, z3⟩
          · rw [ed] at z
            cases z
          · rw [ed] at z1
            have z1' := Option.some.inj z1
            subst z1'
            have ew := dkey_rel ry ek
            subst ew
            refine .inr ⟨p, v', rfl, ?_, k g H M _ _ (Gx.refl g H) r z3 q⟩
            rw [← z2]
            exact DGet.k hv
        · exact q.elim
      · exact q.elim
    · rename_i od vs kvs e
      obtain ⟨_, hv, rl⟩ := r.ob n p _ h1 e
      split at q
      · rename_i kk ek
        split at q
        · rename_i d ed
          rcases rl.val (k := kk) with ⟨z, _⟩ | ⟨d', v', z1, z2, z3⟩
          · rw [ed] at z
            cases z
          · rw [ed] at z1
            have z1' := Option.some.inj z1
            subst z1'
            have ew := dkey_rel ry ek
            subst ew
            refine .inr ⟨p, v', rfl, ?_, k g H M _ _ (Gx.refl g H) r z3 q⟩
            rw [← z2]
            exact .inl ⟨vs, kk, .inr ⟨od, hv⟩, rfl, rfl⟩
        · exact q.elim
      · exact q.elim
    · exact q.elim
  | _ => exact q.elim
/-! ### in, not in -/
theorem od_in (hu : X.X.A.units + 64 < cLine) : OpR X (compareOp .In) (fun y x H Q => ∃ a o, x = .ref a ∧ DGet H a y o ∧ Q (.bl o.isSome) H) := by
  intro pins s σ H y x u v Q I ry rx h
  obtain ⟨a, o, rfl, hd, q⟩ := h
  cases rx
  exact d_in (Nat.lt_of_le_of_lt (Nat.add_le_add_left (by decide : 1 ≤ 64) _) hu) I hd ry fun s3 I3 => ⟨.bl o.isSome, H, I3, rfl, q⟩
theorem od_notIn (hu : X.X.A.units + 64 < cLine) : OpR X (compareOp .NotIn) (fun y x H Q => ∃ a o, x = .ref a ∧ DGet H a y o ∧ Q (.bl (!o.isSome)) H) := by
  intro pins s σ H y x u v Q I ry rx h
  obtain ⟨a, o, rfl, hd, q⟩ := h
  cases rx
  exact d_notIn (Nat.lt_of_le_of_lt (Nat.add_le_add_left (by decide : 1 ≤ 64) _) hu) I hd ry fun s3 I3 => ⟨.bl (!o.isSome), H, I3, rfl, q⟩
def rInP (K : PySem.W.Frag) (neg : Bool) : R2 := fun x y H Q => ∃ d es, Dp K H x d ∧ (Dp K H y (.list es) ∨ Dp K H y (.tuple es)) ∧ d.plain = true ∧ PyData.plainAll es = true ∧ d.depth ≤ 60 ∧ Q (.bl (if neg then !(es.any fun e => PyData.eqv e d) else es.any fun e => PyData.eqv e d)) H
theorem o_inP (hu : X.X.A.units + 64 < cLine) : OpR X (compareOp .In) (rInP X.K false) := by
  intro pins s σ H x y v u Q I rx ry h
  obtain ⟨d, es, hd, he, pd, pe, hh, q⟩ := h
  obtain ⟨as, r1⟩ := Dp.reads I d x v hd rx
  have hm := Nat.min_le_right (PyData.depthAll es) d.depth
  rcases he with he | he
  · obtain ⟨bs, r2⟩ := Dp.reads I _ y u he ry
    exact PySem.SeqAt.in_list_data r2 r1 pe pd (by omega) ⟨.bl _, H, I, rfl, q⟩
  · obtain ⟨bs, r2⟩ := Dp.reads I _ y u he ry
    exact PySem.SeqAt.in_tuple_data r2 r1 pe pd (by omega) ⟨.bl _, H, I, rfl, q⟩
theorem o_notInP (hu : X.X.A.units + 64 < cLine) : OpR X (compareOp .NotIn) (rInP X.K true) := by
  intro pins s σ H x y v u Q I rx ry h
  obtain ⟨d, es, hd, he, pd, pe, hh, q⟩ := h
  obtain ⟨as, r1⟩ := Dp.reads I d x v hd rx
  have hm := Nat.min_le_right (PyData.depthAll es) d.depth
  rcases he with he | he
  · obtain ⟨bs, r2⟩ := Dp.reads I _ y u he ry
    exact PySem.SeqAt.notIn_list_data r2 r1 pe pd (by omega) ⟨.bl _, H, I, rfl, q⟩
  · obtain ⟨bs, r2⟩ := Dp.reads I _ y u he ry
    exact PySem.SeqAt.notIn_tuple_data r2 r1 pe pd (by omega) ⟨.bl _, H, I, rfl, q⟩
def D.mem (x : D) (xs : List D) : Bool := xs.any fun y => D.eqv y x
theorem any_py {x : D} (hx : x.pure = true) : ∀ {ys : List D}, D.pureL ys = true → ((D.pyL ys).any fun e => PyData.eqv e x.py) = D.mem x ys
  | [], _ => by simp [D.pyL, D.mem]
  | y :: ys, e => by
    simp only [D.pureL, Bool.and_eq_true] at e
    have ih := any_py hx e.2
    simp only [D.mem] at ih ⊢
    rw [D.pyL, List.any_cons, List.any_cons, D.eqv_py y x e.1 hx, ih]
def inG (neg : Bool) (x y : D) (M : MM) (Q : DK) : Prop := match y.res M with
  | .lst ys => (x.res M).pure = true ∧ D.pureL ys = true ∧ (x.res M).depth ≤ 60 ∧ Q (.bl (if neg then !D.mem (x.res M) ys else D.mem (x.res M) ys)) M
  | .tup ys => (x.res M).pure = true ∧ D.pureL ys = true ∧ (x.res M).depth ≤ 60 ∧ Q (.bl (if neg then !D.mem (x.res M) ys else D.mem (x.res M) ys)) M
  | .str z => match x with
    | .str c => Q (.bl (if neg then !(!(Builtin.Str.occurrences z c 0 z.length 1).isEmpty) else !(Builtin.Str.occurrences z c 0 z.length 1).isEmpty)) M
    | _ => False
  | .loc n => match M[n]? with
    | some (.dic kvs) => match dkey x with
      | some k => Q (.bl (if neg then !(dlook kvs k).isSome else (dlook kvs k).isSome)) M
      | none => False
    | _ => False
  | _ => False
abbrev dIn : D2 := inG false
abbrev dNotIn : D2 := inG true
def rInD (K : PySem.W.Frag) : R2 := fun x y H Q => rInP K false x y H Q ∨ (∃ a o, y = .ref a ∧ DGet H a x o ∧ Q (.bl o.isSome) H) ∨ ∃ i j, x = .str i ∧ y = .str j ∧ Q (.bl (!(Builtin.Str.occurrences j i 0 j.length 1).isEmpty)) H
def rNotInD (K : PySem.W.Frag) : R2 := fun x y H Q => rInP K true x y H Q ∨ (∃ a o, y = .ref a ∧ DGet H a x o ∧ Q (.bl (!o.isSome)) H) ∨ ∃ i j, x = .str i ∧ y = .str j ∧ Q (.bl (!(!(Builtin.Str.occurrences j i 0 j.length 1).isEmpty))) H
theorem oIn (hu : X.X.A.units + 64 < cLine) : OpR X (compareOp .In) (rInD X.K) := OpR.or (o_inP hu) (OpR.or (od_in hu) op_in_str)
theorem oNotIn (hu : X.X.A.units + 64 < cLine) : OpR X (compareOp .NotIn) (rNotInD X.K) := OpR.or (o_notInP hu) (OpR.or (od_notIn hu) op_notIn_str)
theorem inG_ok {neg : Bool} {g : G} {H : Hp} {M : MM} {x y : D} {v w : V} {Q : DK} {R : VK} (r : RelM K g H M) (rx : RelD K g x v) (ry : RelD K g y w) (q : inG neg x y M Q) (k : PostE K g H Q R) :
    rInP K neg v w H R ∨ (∃ a o, w = .ref a ∧ DGet H a v o ∧ R (.bl (if neg then !o.isSome else o.isSome)) H) ∨ ∃ i j, v = .str i ∧ w = .str j ∧ R (.bl (if neg then !(!(Builtin.Str.occurrences j i 0 j.length 1).isEmpty) else !(Builtin.Str.occurrences j i 0 j.length 1).isEmpty)) H := by
  have hy := fun e => res_dp r ry e
  unfold inG at q
  split at q
  · rename_i ys ey
    obtain ⟨p1, p2, dd, q⟩ := q
    rw [ey] at hy
    have hy2 := hy (by simpa only [D.pure] using p2)
    simp only [D.py] at hy2
    refine .inl ⟨_, _, res_dp r rx p1, .inl hy2, D.py_plain _, D.pyL_plain _, by rw [D.py_depth]; exact dd, ?_⟩
    rw [any_py p1 p2]
    exact k g H M _ _ (Gx.refl g H) r (.bl _) q
  · rename_i ys ey
    obtain ⟨p1, p2, dd, q⟩ := q
    rw [ey] at hy
    have hy2 := hy (by simpa only [D.pure] using p2)
    simp only [D.py] at hy2
    refine .inl ⟨_, _, res_dp r rx p1, .inr hy2, D.py_plain _, D.pyL_plain _, by rw [D.py_depth]; exact dd, ?_⟩
    rw [any_py p1 p2]
    exact k g H M _ _ (Gx.refl g H) r (.bl _) q
  · rename_i z ez
    split at q
    · rename_i c
      cases rx
      have ey : y = .str z := by
        cases ry <;> simp only [D.res] at ez <;> first | (cases ez; done) | exact ez | (split at ez <;> cases ez)
      subst ey
      cases ry
      exact .inr (.inr ⟨c, z, rfl, rfl, k g H M _ _ (Gx.refl g H) r (.bl _) q⟩)
    · exact q.elim
  · rename_i n en
    have ey : y = .loc n := by
      cases ry <;> simp only [D.res] at en <;> first | (cases en; done) | exact en | (split at en <;> first | (cases en; done) | exact en)
    subst ey
    cases ry with
    | loc h1 =>
      rename_i p
      split at q
      · rename_i kvs e
        obtain ⟨_, vs, hv, rl⟩ := r.ob n p _ h1 e
        split at q
        · rename_i kk ek
          have ew := dkey_rel rx ek
          subst ew
          refine .inr (.inl ⟨p, valV vs kk, rfl, DGet.k hv, ?_⟩)
          have e2 : (valV vs kk).isSome = (dlook kvs kk).isSome := by
            rcases rl.val (k := kk) with ⟨z1, z2⟩ | ⟨d', v', z1, z2, z3⟩
            · rw [z1, z2]
              rfl
            · rw [z1, z2]
              rfl
          rw [e2]
          exact k g H M _ _ (Gx.refl g H) r (.bl _) q
        · exact q.elim
      · exact q.elim
  · exact q.elim
theorem lrIn : LR K (rInD K) dIn := fun g H M x y v w r rx ry Q q R k => inG_ok r rx ry q k
theorem lrNotIn : LR K (rNotInD K) dNotIn := fun g H M x y v w r rx ry Q q R k => inG_ok r rx ry q k
end
end AX

namespace AX
open PySem L2
structure DEnds where
  nx : DEnv → MM → Prop
  rt : DK
  bk : DEnv → MM → Prop := fun _ _ => False
  ct : DEnv → MM → Prop := fun _ _ => False
abbrev DS := DEnds → DEnv → MM → Prop
abbrev PostN (K : KB) (g : G) (H : Hp) (P : DEnv → MM → Prop) (R : L2.St → Hp → Prop) : Prop := ∀ g' H' σ' ds' M', Gx g H g' H' → RelM K g' H' M' → RelS K g' σ' ds' → P ds' M' → R σ' H'
structure LEnds (K : KB) (g : G) (H : Hp) (DD : DEnds) (D : Ends) : Prop where
  nx : PostN K g H DD.nx D.nx
  rt : PostE K g H DD.rt D.rt
  bk : PostN K g H DD.bk D.bk
  ct : PostN K g H DD.ct D.ct
section
variable {K : KB} {g g1 : G} {H H1 : Hp} {DD : DEnds} {D : Ends}
theorem PostN.on {P : DEnv → MM → Prop} {R : L2.St → Hp → Prop} (x : Gx g H g1 H1) (k : PostN K g H P R) : PostN K g1 H1 P R := fun g' H' σ' ds' M' y => k g' H' σ' ds' M' (x.trans y)
theorem PostE.on {P : DK} {R : VK} (x : Gx g H g1 H1) (k : PostE K g H P R) : PostE K g1 H1 P R := fun g' H' M' d v y => k g' H' M' d v (x.trans y)
theorem LEnds.on (x : Gx g H g1 H1) (k : LEnds K g H DD D) : LEnds K g1 H1 DD D := ⟨k.nx.on x, k.rt.on x, k.bk.on x, k.ct.on x⟩
end
def LS (K : KB) (t : TS) (u : DS) : Prop := ∀ g H σ ds M, RelM K g H M → RelS K g σ ds → ∀ DD, u DD ds M → ∀ D, LEnds K g H DD D → t D σ H
structure XS (X : CB) (st : Stmt) (u : DS) : Prop where
  ex : ∃ t, PS X st t ∧ LS X.K t u
structure XSs (X : CB) (st : List Stmt) (u : DS) : Prop where
  ex : ∃ t, PSs X st t ∧ LS X.K t u
abbrev DG := D → DEnv → MM → (DEnv → MM → Prop) → Prop
abbrev DGs := List D → DEnv → MM → (DEnv → MM → Prop) → Prop
def LG (K : KB) (t : TG) (u : DG) : Prop := ∀ g H σ ds M d v, RelM K g H M → RelS K g σ ds → RelD K g d v → ∀ Q, u d ds M Q → ∀ R, PostN K g H Q R → t v σ H R
def LGs (K : KB) (t : TGs) (u : DGs) : Prop := ∀ g H σ ds M d v, RelM K g H M → RelS K g σ ds → RelL K g d v → ∀ Q, u d ds M Q → ∀ R, PostN K g H Q R → t v σ H R
structure XG (X : CB) (e : Expr) (u : DG) : Prop where
  ex : ∃ t, PG X e t ∧ LG X.K t u
structure XGs (X : CB) (e : List Expr) (u : DGs) : Prop where
  ex : ∃ t, PGs X e t ∧ LGs X.K t u
section
variable {X : CB} {K : KB} {st : Stmt} {rest : List Stmt} {u u1 u2 : DS} {ue : DE} {e tg : Expr} {pos : Pos} {ut : DT}
def dNext : DS := fun D ds M => D.nx ds M
def dSeq (t u : DS) : DS := fun D ds M => t { D with nx := u D } ds M
theorem ss_nil : XSs X [] dNext := ⟨_, pss_nil, fun g H σ ds M r s DD q D k => k.nx g H σ ds M (Gx.refl g H) r s q⟩
theorem ss_cons (h1 : XS X st u1) (h2 : XSs X rest u2) : XSs X (st :: rest) (dSeq u1 u2) := by
  obtain ⟨t1, p1, l1⟩ := h1.ex
  obtain ⟨t2, p2, l2⟩ := h2.ex
  exact ⟨_, pss_cons p1 p2, fun g H σ ds M r s DD q D k => l1 g H σ ds M r s _ q _ ⟨fun g' H' σ' ds' M' x r' s' q' => l2 g' H' σ' ds' M' r' s' DD q' D (k.on x), k.rt, k.bk, k.ct⟩⟩
theorem ss_one (h1 : XS X st u1) : XSs X [st] u1 := by
  obtain ⟨t1, p1, l1⟩ := h1.ex
  exact ⟨_, pss_one p1, l1⟩
theorem s_pass : XS X (.Pass pos) dNext := ⟨_, ps_pass, fun g H σ ds M r s DD q D k => k.nx g H σ ds M (Gx.refl g H) r s q⟩
def dBrk : DS := fun D ds M => D.bk ds M
def dCnt : DS := fun D ds M => D.ct ds M
theorem s_break : XS X (.Break pos) dBrk := ⟨_, ps_break, fun g H σ ds M r s DD q D k => k.bk g H σ ds M (Gx.refl g H) r s q⟩
theorem s_continue : XS X (.Continue pos) dCnt := ⟨_, ps_continue, fun g H σ ds M r s DD q D k => k.ct g H σ ds M (Gx.refl g H) r s q⟩
theorem s_never : XS X st (fun _ _ _ => False) := ⟨_, ps_never, fun g H σ ds M r s DD q D k => q.elim⟩
theorem ss_never : XSs X rest (fun _ _ _ => False) := ⟨_, pss_never, fun g H σ ds M r s DD q D k => q.elim⟩
def dDrop (ue : DE) : DS := fun D ds M => ue ds M fun _ M1 => D.nx ds M1
theorem s_expr (he : XE X e ue) (hs : swapsWith e none pos.line X.env = pure false := by rfl) : XS X (.Expr e pos) (dDrop ue) := by
  obtain ⟨t, p, l⟩ := he.ex
  exact ⟨_, ps_expr p hs, fun g H σ ds M r s DD q D k => l g H σ ds M r s _ q _ fun g1 H1 M1 d v x r1 rd q1 => k.nx g1 H1 σ ds M1 x r1 (s.mono x) q1⟩
def dRet (ue : DE) : DS := fun D ds M => ue ds M D.rt
theorem s_ret (he : XE X e ue) : XS X (.Return (some e) pos) (dRet ue) := by
  obtain ⟨t, p, l⟩ := he.ex
  exact ⟨_, ps_ret p, fun g H σ ds M r s DD q D k => l g H σ ds M r s _ q _ k.rt⟩
def dRetN : DS := fun D _ M => D.rt .non M
theorem s_retN : XS X (.Return none pos) dRetN := ⟨_, ps_retN, fun g H σ ds M r s DD q D k => k.rt g H M _ _ (Gx.refl g H) r .non q⟩
def dIfS (c : DT) (t u : DS) : DS := fun D ds M => c ds M fun b M1 => if b = true then t D ds M1 else u D ds M1
theorem s_if {c : Expr} {a b : List Stmt} (hc : XT X c ut) (ha : XSs X a u1) (hb : XSs X b u2) : XS X (.If c a b pos) (dIfS ut u1 u2) := by
  obtain ⟨tc, pc, lc⟩ := hc.ex
  obtain ⟨ta, pa, la⟩ := ha.ex
  obtain ⟨tb, pb, lb⟩ := hb.ex
  refine ⟨_, ps_if pc pa pb, fun g H σ ds M r s DD q D k => lc g H σ ds M r s _ q _ fun g1 H1 M1 b x r1 q1 => ?_⟩
  cases b with
  | true =>
    rw [if_pos rfl] at q1 ⊢
    exact la g1 H1 σ ds M1 r1 (s.mono x) DD q1 D (k.on x)
  | false =>
    rw [if_neg Bool.false_ne_true] at q1 ⊢
    exact lb g1 H1 σ ds M1 r1 (s.mono x) DD q1 D (k.on x)
/-! ### targets -/
def dgN (i : Nat) : DG := fun d ds M Q => Q (ds.set i (some d)) M
theorem g_name (i : Nat) {x : Str} {pos : Pos} (hN : X.N.Nodup) (hi : X.N[i]? = some x := by rfl) (hx : Loc X.env.scope x := by first | exact Or.inl rfl | exact Or.inr rfl) (hf : X.fn x = true ∨ X.env.scope.names.lookup x = some .local := by first | exact .inl rfl | exact .inr rfl) : XG X (.Name x pos) (dgN i) :=
  ⟨_, pg_name hN hi hx hf, fun g H σ ds M d v r s rd Q q R k => k g H _ _ M (Gx.refl g H) r (s.set rd i) q⟩
def dgNil : DGs := fun vs ds M Q => match vs with
  | [] => Q ds M
  | _ => False
def dgCons (t : DG) (u : DGs) : DGs := fun vs ds M Q => match vs with
  | v :: r => t v ds M fun ds' M' => u r ds' M' Q
  | _ => False
theorem gs_nil : XGs X [] dgNil := ⟨_, pgs_nil, fun g H σ ds M d v r s rd Q q R k => by
  cases rd with
  | nil => exact ⟨rfl, k g H σ ds M (Gx.refl g H) r s q⟩
  | cons _ _ => exact q.elim⟩
theorem gs_cons {e : Expr} {es : List Expr} {t : DG} {u : DGs} (h1 : XG X e t) (h2 : XGs X es u)
    (hs : (assignEach (e :: es) X.env).map (·.2) = assign e X.env :: (assignEach es X.env).map (·.2) := by rfl) : XGs X (e :: es) (dgCons t u) := by
  obtain ⟨t1, p1, l1⟩ := h1.ex
  obtain ⟨t2, p2, l2⟩ := h2.ex
  refine ⟨_, pgs_cons p1 p2 hs, fun g H σ ds M d v r s rd Q q R k => ?_⟩
  cases rd with
  | nil => exact q.elim
  | cons h hr => exact ⟨_, _, rfl, l1 g H σ ds M _ _ r s h _ q _ fun g1 H1 σ1 ds1 M1 x r1 s1 q1 => l2 g1 H1 σ1 ds1 M1 _ _ r1 s1 (hr.mono x) Q q1 R (k.on x)⟩
def dgTup (n : Nat) (u : DGs) : DG := fun d ds M Q => match d with
  | .tup xs => xs.length = n ∧ u xs ds M Q
  | _ => False
theorem g_tup {es : List Expr} {k : Nat} {u : DGs} {n : Nat} (hc : X.calm = true) (h : XGs X es u)
    (hn : (assignEach es X.env).length = n := by rfl) (hst : (assignEach es X.env).findIdx? (·.1) = none := by rfl) : XG X (.Tuple es k pos) (dgTup n u) := by
  obtain ⟨t, p, l⟩ := h.ex
  refine ⟨_, pg_tup hc p hn hst, fun g H σ ds M d v r s rd Q q R k => ?_⟩
  cases rd with
  | tup h1 r1 => exact ⟨_, _, rfl, same_t r.ex h1, by rw [← r1.len]; exact q.1, l g H σ ds M _ _ r s r1 Q q.2 R k⟩
  | _ => exact q.elim
/-! ### assignments -/
def dAsg (ue : DE) (g : DG) : DS := fun D ds M => ue ds M fun x M1 => g x ds M1 D.nx
theorem le_asg {te : TE} {tg : TG} {ug : DG} (l : LE K te ue) (lg : LG K tg ug) : LS K (tAsg te tg) (dAsg ue ug) := fun g H σ ds M r s DD q D k =>
  l g H σ ds M r s _ q _ fun g1 H1 M1 d v x r1 rd q1 => lg g1 H1 σ ds M1 d v r1 (s.mono x) rd _ q1 _ (k.nx.on x)
theorem s_asg {ug : DG} (he : XE X e ue) (hg : XG X tg ug) (hs : swapsWithSole [tg] e pos.line X.env = pure false := by rfl) (hw : swappedStores [tg] e X.env = pure none := by rfl)
    (h1 : (assignEach [tg] X.env).map (·.2) = [assign tg X.env] := by rfl) : XS X (.Assign [tg] e pos) (dAsg ue ug) := by
  obtain ⟨t, p, l⟩ := he.ex
  obtain ⟨tg', pg, lg⟩ := hg.ex
  exact ⟨_, ps_asg p pg hs hw h1, le_asg l lg⟩
theorem s_set (i : Nat) {x : Str} {pos' : Pos} (hN : X.N.Nodup) (he : XE X e ue) (hi : X.N[i]? = some x := by rfl) (hx : Loc X.env.scope x := by first | exact Or.inl rfl | exact Or.inr rfl) (hs : swapsWith e (some (.Name x pos')) pos.line X.env = pure false := by rfl)
    (hf : X.fn x = true ∨ X.env.scope.names.lookup x = some .local := by first | exact .inl rfl | exact .inr rfl) : XS X (.Assign [.Name x pos'] e pos) (dAsg ue (dgN i)) := by
  obtain ⟨t, p, l⟩ := he.ex
  exact ⟨_, ps_set hN hi hx p hs hf, le_asg l fun g H σ ds M d v r s rd Q q R k => k g H _ _ M (Gx.refl g H) r (s.set rd i) q⟩
def dPar (i j : Nat) (ua : DA) : DS := fun D ds M => ua ds M fun vs M1 => match vs with
  | [v, w] => D.nx ((ds.set i (some v)).set j (some w)) M1
  | _ => False
theorem s_par (i j : Nat) {x y : Str} {a b : Expr} {ua : DA} {px py pt : Pos} {kt k2 pt2} (hc : X.calm = true) (hN : X.N.Nodup) (ha : XA X [a, b] ua) (hi : X.N[i]? = some x := by rfl) (hj : X.N[j]? = some y := by rfl) (hij : i ≠ j := by decide)
    (hx : X.env.scope.names.lookup x = some .local := by rfl) (hy : X.env.scope.names.lookup y = some .local := by rfl)
    (hw : swappedStores [.Tuple [.Name x px, .Name y py] kt pt] (.Tuple [a, b] k2 pt2) X.env = pure (some [x, y]) := by rfl)
    (hs : swapsWithSole [.Tuple [.Name x px, .Name y py] kt pt] (.Tuple [a, b] k2 pt2) pos.line X.env = pure false := by rfl) :
    XS X (.Assign [.Tuple [.Name x px, .Name y py] kt pt] (.Tuple [a, b] k2 pt2) pos) (dPar i j ua) := by
  obtain ⟨t, p, l⟩ := ha.ex
  refine ⟨_, ps_par hc hN hi hj hij hx hy p hw hs, fun g H σ ds M r s DD q D k => l g H σ ds M r s _ q _ fun g1 H1 M1 xs vs x r1 rd q1 => ?_⟩
  cases rd with
  | nil => exact q1.elim
  | cons h1 rd => cases rd with
    | nil => exact q1.elim
    | cons h2 rd => cases rd with
      | nil => exact ⟨_, _, rfl, k.nx g1 H1 _ _ M1 x r1 (((s.mono x).set h1 i).set h2 j) q1⟩
      | cons _ _ => exact q1.elim
def dAug (i : Nat) (ue : DE) (f : D2) : DS := fun D ds M => match ds[i]? with
  | some (some x) => ue ds M fun y M1 => f x y M1 fun z M2 => D.nx (ds.set i (some z)) M2
  | _ => False
theorem s_aug (i : Nat) {x : Str} {op : Operator} {r : R2} {u : D2} {pos' : Pos} (hN : X.N.Nodup) (ho : OpR X (inplaceOp op) r) (hr : LR X.K r u) (he : XE X e ue) (hi : X.N[i]? = some x := by rfl) (hx : Loc X.env.scope x := by first | exact Or.inl rfl | exact Or.inr rfl)
    (hf : X.fn x = true ∨ X.env.scope.names.lookup x = some .local := by first | exact .inl rfl | exact .inr rfl) : XS X (.AugAssign (.Name x pos') op e pos) (dAug i ue u) := by
  obtain ⟨t, p, l⟩ := he.ex
  refine ⟨_, ps_aug (ti := r) hN hi hx p ho hf, fun g H σ ds M rm s DD q D k => ?_⟩
  unfold dAug at q
  split at q
  · rename_i d ed
    obtain ⟨v, ev, rv⟩ := s.get i d ed
    exact ⟨v, ev, l g H σ ds M rm s _ q _ fun g1 H1 M1 y w x1 r1 ry q1 => hr g1 H1 M1 d y v w r1 (rv.mono x1) ry _ q1 _ fun g2 H2 M2 z zz x2 r2 rz q2 =>
      k.nx g2 H2 _ _ M2 (x1.trans x2) r2 ((s.mono (x1.trans x2)).set rz i) q2⟩
  · exact q.elim
/-! ### what is walked -/
structure JOk (K : KB) (g : G) (J : It) (xs : List D) (chk : MM → Prop) : Prop where
  stop : ∀ g2 H2 M2 i, Gr g g2 → RelM K g2 H2 M2 → chk M2 → xs.length ≤ i → J.stop i H2
  go : ∀ g2 H2 M2 i d, Gr g g2 → RelM K g2 H2 M2 → chk M2 → xs[i]? = some d → J.go i H2 ∧ ∀ x H', J.yld i H2 x H' → ∃ g3, Gx g2 H2 g3 H' ∧ RelM K g3 H' M2 ∧ RelD K g3 d x
abbrev DI := DEnv → MM → (List D → (MM → Prop) → MM → Prop) → Prop
def LI (K : KB) (w : TI) (u : DI) : Prop := ∀ g H σ ds M, RelM K g H M → RelS K g σ ds → ∀ R, u ds M R → ∀ R' : It → Hp → Prop, (∀ g1 H1 M1 xs chk J, Gx g H g1 H1 → RelM K g1 H1 M1 → JOk K g1 J xs chk → R xs chk M1 → R' J H1) → w σ H R'
structure XI (X : CB) (tg iter : Expr) (u : DI) : Prop where
  ex : ∃ w, PI X tg iter w ∧ LI X.K w u
def noChk : MM → Prop := fun _ => True
def dList (ue : DE) : DI := fun ds M R => ue ds M fun x M1 => match x with
  | .lst xs => R xs noChk M1
  | .loc n => match M1[n]? with
    | some (.lst xs) => R xs (fun M2 => M2[n]? = some (.lst xs)) M1
    | _ => False
  | _ => False
theorem sql_get {H : Hp} {a : Addr} {xs : List V} {x : V} {i : Nat} (h : SqL K H a xs) (f : ∀ ys, SqL K H a ys → ys[i]? = some x) : xs[i]? = some x := f xs h
theorem jok_list {g : G} {p : Addr} {vs : List V} {xs : List D} (h : SqL K g.F p vs) (r : RelL K g xs vs) : JOk K g (Itl K p) xs noChk where
  stop := fun g2 H2 M2 i x rm _ hi => ⟨vs, rm.ex.seq (x.f.seq h), by rw [← r.len]; exact hi⟩
  go := fun g2 H2 M2 i d x rm _ e => by
    obtain ⟨v, ev, rv⟩ := r.got e
    refine ⟨⟨vs, v, rm.ex.seq (x.f.seq h), ev⟩, fun y H' hy => ?_⟩
    obtain ⟨rfl, f⟩ := hy
    have e2 := (f vs (rm.ex.seq (x.f.seq h))).symm.trans ev
    have e3 := Option.some.inj e2
    subst e3
    exact ⟨g2, Gx.refl g2 H', rm, rv.mono x⟩
theorem jok_loc {g : G} {p : Addr} {n : Nat} {xs : List D} (h : g.as[n]? = some p) : JOk K g (Itl K p) xs (fun M2 => M2[n]? = some (.lst xs)) where
  stop := fun g2 H2 M2 i x rm c hi => by
    obtain ⟨_, vs, hv, rl⟩ := rm.ob n p _ (x.at h) c
    exact ⟨vs, .inl (.inl hv), by rw [← rl.len]; exact hi⟩
  go := fun g2 H2 M2 i d x rm c e => by
    obtain ⟨_, vs, hv, rl⟩ := rm.ob n p _ (x.at h) c
    obtain ⟨v, ev, rv⟩ := rl.got e
    refine ⟨⟨vs, v, .inl (.inl hv), ev⟩, fun y H' hy => ?_⟩
    obtain ⟨rfl, f⟩ := hy
    have e2 := (f vs (.inl (.inl hv))).symm.trans ev
    have e3 := Option.some.inj e2
    subst e3
    exact ⟨g2, Gx.refl g2 H', rm, rv⟩
theorem i_list {iter : Expr} (h : XE X iter ue) : XI X tg iter (dList ue) := by
  obtain ⟨t, p, l⟩ := h.ex
  refine ⟨_, pi_list p, fun g H σ ds M r s R q R' k => l g H σ ds M r s _ q _ fun g1 H1 M1 d v x r1 rd q1 => ?_⟩
  cases rd with
  | lst h1 r2 => exact ⟨_, rfl, ⟨_, .inl (same_rd r1.ex h1)⟩, k g1 H1 M1 _ _ _ x r1 (jok_list (.inl h1) r2) q1⟩
  | loc h1 =>
    rename_i n p
    simp only at q1
    split at q1
    · rename_i xs e
      obtain ⟨_, vs, hv, rl⟩ := r1.ob n p _ h1 e
      exact ⟨p, rfl, ⟨vs, .inl (.inl hv)⟩, k g1 H1 M1 _ _ _ x r1 (jok_loc h1) q1⟩
    · exact q1.elim
  | _ => exact q1.elim
def dTupI (ue : DE) : DI := fun ds M R => ue ds M fun x M1 => match x with
  | .tup xs => R xs noChk M1
  | _ => False
theorem i_tup {iter : Expr} (h : XE X iter ue) : XI X tg iter (dTupI ue) := by
  obtain ⟨t, p, l⟩ := h.ex
  refine ⟨_, pi_tup p, fun g H σ ds M r s R q R' k => l g H σ ds M r s _ q _ fun g1 H1 M1 d v x r1 rd q1 => ?_⟩
  cases rd with
  | tup h1 r2 =>
    rename_i p vs xs
    refine ⟨_, rfl, ⟨_, same_t r1.ex h1⟩, k g1 H1 M1 xs noChk _ x r1 ⟨fun g2 H2 M2 i x rm _ hi => ⟨vs, same_t rm.ex (same_t x.f h1), by rw [← r2.len]; exact hi⟩, fun g2 H2 M2 i d x rm _ e => ?_⟩ q1⟩
    obtain ⟨v, ev, rv⟩ := r2.got e
    refine ⟨⟨vs, v, same_t rm.ex (same_t x.f h1), ev⟩, fun y H' hy => ?_⟩
    obtain ⟨rfl, f⟩ := hy
    have e2 := (f vs (same_t rm.ex (same_t x.f h1))).symm.trans ev
    have e3 := Option.some.inj e2
    subst e3
    exact ⟨g2, Gx.refl g2 H', rm, rv.mono x⟩
  | _ => exact q1.elim
def rngD (lo : Int) (n : Nat) : List D := (List.range n).map fun (i : Nat) => D.int (lo + (i : Int))
theorem jok_rng {g : G} (lo : Int) (n : Nat) : JOk K g (Itr lo n) (rngD lo n) noChk where
  stop := fun g2 H2 M2 i x rm _ hi => by
    have e : (rngD lo n).length = n := by simp [rngD]
    rw [e] at hi
    exact hi
  go := fun g2 H2 M2 i d x rm _ e => by
    have hl : i < n := by
      have z := (List.getElem?_eq_some_iff.mp e).1
      simpa [rngD] using z
    refine ⟨hl, fun y H' hy => ?_⟩
    obtain ⟨rfl, rfl⟩ := hy
    have ed : d = .int (lo + i) := by
      unfold rngD at e
      rw [List.getElem?_map, List.getElem?_range hl] at e
      exact (Option.some.inj e).symm
    subst ed
    exact ⟨g2, Gx.refl g2 H', rm, .int _⟩
def dRng1 (ua : DA) : DI := fun ds M R => ua ds M fun vs M1 => match vs with
  | [.int j] => -(2 ^ 62) ≤ j ∧ j < 2 ^ 62 ∧ R (rngD 0 j.toNat) noChk M1
  | _ => False
theorem i_rng1 {a : Expr} {ua : DA} {p pos : Pos} (hg : Gl X "range") (hm : X.mg "range" = none) (ha : XA X [a] ua) (hs : starEach [a] X.env = [(false, eval a X.env)] := by rfl) : XI X tg (.Call (.Name "range" p) [a] [] pos) (dRng1 ua) := by
  obtain ⟨t, p, l⟩ := ha.ex
  refine ⟨_, pi_range1 hg hm p hs, fun g H σ ds M r s R q R' k => l g H σ ds M r s _ q _ fun g1 H1 M1 xs vs x r1 rd q1 => ?_⟩
  split at q1
  · rename_i j
    cases rd with
    | cons h1 h2 =>
      cases h1
      cases h2
      exact ⟨j, rfl, q1.1, q1.2.1, k g1 H1 M1 _ _ _ x r1 (jok_rng 0 j.toNat) q1.2.2⟩
  · exact q1.elim
def dRng2 (ua : DA) : DI := fun ds M R => ua ds M fun vs M1 => match vs with
  | [.int i, .int j] => (-(2 ^ 62) ≤ i ∧ i < 2 ^ 62 ∧ -(2 ^ 62) ≤ j ∧ j < 2 ^ 62) ∧ R (rngD i (j - i).toNat) noChk M1
  | _ => False
theorem i_rng2 {a b : Expr} {ua : DA} {p pos : Pos} (hg : Gl X "range") (hm : X.mg "range" = none) (ha : XA X [a, b] ua) (hs : starEach [a, b] X.env = [(false, eval a X.env), (false, eval b X.env)] := by rfl) (hs2 : starEach [b] X.env = [(false, eval b X.env)] := by rfl) :
    XI X tg (.Call (.Name "range" p) [a, b] [] pos) (dRng2 ua) := by
  obtain ⟨t, p, l⟩ := ha.ex
  refine ⟨_, pi_range2 hg hm p hs hs2, fun g H σ ds M r s R q R' k => l g H σ ds M r s _ q _ fun g1 H1 M1 xs vs x r1 rd q1 => ?_⟩
  split at q1
  · rename_i i j
    cases rd with
    | cons h1 h2 =>
      cases h1
      cases h2 with
      | cons h3 h4 =>
        cases h3
        cases h4
        exact ⟨i, j, rfl, q1.1, k g1 H1 M1 _ _ _ x r1 (jok_rng i (j - i).toNat) q1.2⟩
  · exact q1.elim
/-! ### for -/
def dLoop (chk : MM → Prop) (gt : DG) (b : DS) (DD : DEnds) : List D → DEnv → MM → Prop
  | [], ds, M => chk M ∧ DD.nx ds M
  | x :: xs, ds, M => chk M ∧ gt x ds M fun ds1 M1 => b { DD with nx := dLoop chk gt b DD xs, ct := dLoop chk gt b DD xs, bk := DD.nx } ds1 M1
def dFor (ui : DI) (gt : DG) (b : DS) : DS := fun DD ds M => ui ds M fun xs chk M1 => dLoop chk gt b DD xs ds M1
theorem s_for {iter : Expr} {body : List Stmt} {ui : DI} {gt : DG} {ub : DS} {pos : Pos} (hp : PassesOwn (model X.prog X.w) X.A X.env X.xe) (hc : X.calm = true) (hi : XI X tg iter ui) (hg : XG X tg gt) (hb : XSs X body ub)
    (hs : ∀ x, foldedSetIterable iter X.env x = pure x := by intro _; rfl) : XS X (.For tg iter body [] pos) (dFor ui gt ub) := by
  obtain ⟨wi, pi, li⟩ := hi.ex
  obtain ⟨tg', pg, lg⟩ := hg.ex
  obtain ⟨tb, pb, lb⟩ := hb.ex
  refine ⟨_, ps_for hp hc pi pg pb hs, fun g H σ ds M r s DD q D k => li g H σ ds M r s _ q _ fun g1 H1 M1 xs chk J x r1 jk q1 => ?_⟩
  refine ⟨fun i m σ' H' => i + m = xs.length ∧ ∃ g2 ds2 M2, Gx g1 H1 g2 H' ∧ RelM X.K g2 H' M2 ∧ RelS X.K g2 σ' ds2 ∧ dLoop chk gt ub DD (xs.drop i) ds2 M2, ⟨xs.length, by omega, g1, ds, M1, Gx.refl g1 H1, r1, s.mono x, q1⟩, fun i m σ' H' hw => ?_⟩
  obtain ⟨em, g2, ds2, M2, x2, r2, s2, q2⟩ := hw
  by_cases hi : i < xs.length
  · rw [List.drop_eq_getElem_cons hi] at q2
    obtain ⟨c2, q2⟩ := q2
    obtain ⟨hgo, hy⟩ := jk.go g2 H' M2 i xs[i] x2 r2 c2 (List.getElem?_eq_getElem hi)
    refine .inr ⟨hgo, fun σ3 H3 => ∃ g3 ds3 M3, Gx g1 H1 g3 H3 ∧ RelM X.K g3 H3 M3 ∧ RelS X.K g3 σ3 ds3 ∧ dLoop chk gt ub DD (xs.drop (i + 1)) ds3 M3, fun σ3 H3 hn => ⟨m - 1, by omega, by omega, hn⟩, fun y H3 yy => ?_⟩
    obtain ⟨g3, x3, r3, rd⟩ := hy y H3 yy
    refine lg g3 H3 σ' ds2 M2 _ _ r3 (s2.mono x3) rd _ q2 _ fun g4 H4 σ4 ds4 M4 x4 r4 s4 q4 => ?_
    refine lb g4 H4 σ4 ds4 M4 r4 s4 _ q4 _ ⟨fun g5 H5 σ5 ds5 M5 x5 r5 s5 q5 => ?_, (k.rt.on (x.trans (x2.trans (x3.trans x4)))), (k.nx.on (x.trans (x2.trans (x3.trans x4)))), fun g5 H5 σ5 ds5 M5 x5 r5 s5 q5 => ?_⟩
    · exact ⟨g5, ds5, M5, x2.trans (x3.trans (x4.trans x5)), r5, s5, q5⟩
    · exact ⟨g5, ds5, M5, x2.trans (x3.trans (x4.trans x5)), r5, s5, q5⟩
  · rw [List.drop_of_length_le (by omega)] at q2
    obtain ⟨c2, q2⟩ := q2
    exact .inl ⟨jk.stop g2 H' M2 i x2 r2 c2 (by omega), k.nx g2 H' σ' ds2 M2 (x.trans x2) r2 s2 q2⟩
/-! ### while -/
def dWhile (c : DT) (b : DS) : DS := fun DD ds M => ∃ W : Nat → DEnv → MM → Prop, (∃ m, W m ds M) ∧ ∀ m ds M, W m ds M →
  c ds M fun k M1 => if k = true then b { DD with nx := fun ds' M' => ∃ m', m' < m ∧ W m' ds' M', ct := fun ds' M' => ∃ m', m' < m ∧ W m' ds' M', bk := DD.nx } ds M1 else DD.nx ds M1
theorem s_while {c : Expr} {body : List Stmt} {uc : DT} {ub : DS} (hp : PassesOwn (model X.prog X.w) X.A X.env X.xe) (hc : XT X c uc) (hb : XSs X body ub) : XS X (.While c body [] pos) (dWhile uc ub) := by
  obtain ⟨tc, pc, lc⟩ := hc.ex
  obtain ⟨tb, pb, lb⟩ := hb.ex
  refine ⟨_, ps_while hp pc pb, fun g H σ ds M r s DD q D k => ?_⟩
  obtain ⟨W, ⟨m0, w0⟩, turn⟩ := q
  refine ⟨fun m σ' H' => ∃ g2 ds2 M2, Gx g H g2 H' ∧ RelM X.K g2 H' M2 ∧ RelS X.K g2 σ' ds2 ∧ W m ds2 M2, ⟨m0, g, ds, M, Gx.refl g H, r, s, w0⟩, fun m σ' H' hw => ?_⟩
  obtain ⟨g2, ds2, M2, x2, r2, s2, w2⟩ := hw
  refine lc g2 H' σ' ds2 M2 r2 s2 _ (turn m ds2 M2 w2) _ fun g3 H3 M3 b x3 r3 q3 => ?_
  cases b with
  | true =>
    rw [if_pos rfl] at q3 ⊢
    refine ⟨fun σ5 H5 => ∃ m', m' < m ∧ ∃ g5 ds5 M5, Gx g H g5 H5 ∧ RelM X.K g5 H5 M5 ∧ RelS X.K g5 σ5 ds5 ∧ W m' ds5 M5, fun σ5 H5 h5 => h5, ?_⟩
    refine lb g3 H3 σ' ds2 M3 r3 (s2.mono x3) _ q3 _ ⟨fun g5 H5 σ5 ds5 M5 x5 r5 s5 q5 => ?_, (k.rt.on (x2.trans x3)), (k.nx.on (x2.trans x3)), fun g5 H5 σ5 ds5 M5 x5 r5 s5 q5 => ?_⟩
    · obtain ⟨m', hm, w5⟩ := q5
      exact ⟨m', hm, g5, ds5, M5, x2.trans (x3.trans x5), r5, s5, w5⟩
    · obtain ⟨m', hm, w5⟩ := q5
      exact ⟨m', hm, g5, ds5, M5, x2.trans (x3.trans x5), r5, s5, w5⟩
  | false =>
    rw [if_neg Bool.false_ne_true] at q3 ⊢
    exact k.nx g3 H3 σ' ds2 M3 (x2.trans x3) r3 (s2.mono x3) q3
end
end AX

namespace AX
open PySem L2
/-! ### one reading for a family of contexts -/
def tOf (K : KB) (u : DE) : TE := fun σ H R => ∃ g ds M Q, RelM K g H M ∧ RelS K g σ ds ∧ u ds M Q ∧ PostE K g H Q R
def ttOf (K : KB) (u : DT) : TT := fun σ H R => ∃ g ds M Q, RelM K g H M ∧ RelS K g σ ds ∧ u ds M Q ∧ (∀ g' H' M' b, Gx g H g' H' → RelM K g' H' M' → Q b M' → R b H')
theorem le_of {K : KB} {u : DE} : LE K (tOf K u) u := fun g H σ ds M r s Q q R k => ⟨g, ds, M, Q, r, s, q, k⟩
theorem lt_of {K : KB} {u : DT} : LT K (ttOf K u) u := fun g H σ ds M r s Q q R k => ⟨g, ds, M, Q, r, s, q, k⟩
theorem XE.can {X : CB} {e : Expr} {u : DE} (h : XE X e u) : PE X e (tOf X.K u) := by
  obtain ⟨t, p, l⟩ := h.ex
  refine ⟨fun pins s σ H Q I hw => ?_⟩
  obtain ⟨g, ds, M, Qd, r, sr, q, k⟩ := hw
  exact p.run pins s σ H Q I (l g H σ ds M r sr Qd q Q k)
structure XTs (X : CB) (e : List Expr) (u : DT) : Prop where
  ex : ∃ t, PTs X e t ∧ LT X.K t u
theorem XTs.can {X : CB} {e : List Expr} {u : DT} (h : XTs X e u) : PTs X e (ttOf X.K u) := by
  obtain ⟨t, p, l⟩ := h.ex
  refine ⟨fun pins s σ H Q I hw => ?_⟩
  obtain ⟨g, ds, M, Qd, r, sr, q, k⟩ := hw
  exact p.run pins s σ H Q I (l g H σ ds M r sr Qd q Q k)
def dYes : DT := fun _ M Q => Q true M
theorem ts_nil {X : CB} : XTs X [] dYes := ⟨_, pts_nil, fun g H σ ds M r s Q q R k => k g H M true (Gx.refl g H) r q⟩
theorem ts_one {X : CB} {c : Expr} {u : DT} (h : XT X c u) : XTs X [c] u := by
  obtain ⟨t, p, l⟩ := h.ex
  exact ⟨_, pts_one p, l⟩
/-! ### comprehensions -/
def wipeD (ds : DEnv) : List Nat → DEnv
  | [] => ds
  | v :: vs => (wipeD ds vs).set v none
theorem wipeD_length (ds : DEnv) : ∀ vs : List Nat, (wipeD ds vs).length = ds.length
  | [] => rfl
  | v :: vs => by unfold wipeD; rw [List.length_set, wipeD_length ds vs]
theorem RelS.unset {K : PySem.W.Frag} {g : G} {σ : L2.St} {ds : DEnv} (r : RelS K g σ ds) (i : Nat) : RelS K g (σ.set i none) (ds.set i none) := by
  refine ⟨by rw [List.length_set, List.length_set]; exact r.len, fun j e q => ?_⟩
  by_cases hj : j = i
  · subst hj
    have hl : j < ds.length := by
      have z := (List.getElem?_eq_some_iff.mp q).1
      rw [List.length_set] at z
      exact z
    rw [List.getElem?_set_self hl] at q
    cases q
  · rw [List.getElem?_set_ne (fun z => hj z.symm)] at q
    obtain ⟨w, e1, e2⟩ := r.get j e q
    exact ⟨w, by rw [List.getElem?_set_ne (fun z => hj z.symm)]; exact e1, e2⟩
theorem RelS.wipe {K : PySem.W.Frag} {g : G} {σ : L2.St} {ds : DEnv} (r : RelS K g σ ds) : ∀ vs : List Nat, RelS K g (L2.wipe σ vs) (wipeD ds vs)
  | [] => r
  | v :: vs => by
    unfold L2.wipe wipeD
    exact (RelS.wipe r vs).unset v
theorem wipe_set {σ : L2.St} {i : Nat} {x : Option V} : ∀ {vs : List Nat}, i ∈ vs → L2.wipe (σ.set i x) vs = L2.wipe σ vs
  | [], h => by cases h
  | v :: vs, h => by
    unfold L2.wipe
    by_cases hv : i ∈ vs
    · rw [wipe_set hv]
    · have e : i = v := by
        rcases List.mem_cons.mp h with z | z
        · exact z
        · exact absurd z hv
      subst e
      refine List.ext_getElem? fun j => ?_
      by_cases hj : j = i
      · subst hj
        by_cases hl : j < σ.length
        · rw [List.getElem?_set_self (by rw [wipe_length, List.length_set]; exact hl), List.getElem?_set_self (by rw [wipe_length]; exact hl)]
        · rw [List.getElem?_eq_none (by rw [List.length_set, wipe_length, List.length_set]; omega), List.getElem?_eq_none (by rw [List.length_set, wipe_length]; omega)]
      · rw [List.getElem?_set_ne (fun z => hj z.symm), List.getElem?_set_ne (fun z => hj z.symm)]
        by_cases hm : j ∈ vs
        · have a1 : ∀ {τ : L2.St} {ws : List Nat}, j ∈ ws → j < τ.length → (L2.wipe τ ws)[j]? = some none := by
            intro τ ws
            induction ws with
            | nil => intro h; cases h
            | cons w ws ih =>
              intro h hl
              unfold L2.wipe
              by_cases e : w = j
              · subst e
                rw [List.getElem?_set_self (by rw [wipe_length]; exact hl)]
              · rw [List.getElem?_set_ne e]
                rcases List.mem_cons.mp h with z | z
                · exact absurd z.symm e
                · exact ih z hl
          by_cases hl : j < σ.length
          · rw [a1 hm (by rw [List.length_set]; exact hl), a1 hm hl]
          · rw [List.getElem?_eq_none (by rw [wipe_length, List.length_set]; omega), List.getElem?_eq_none (by rw [wipe_length]; omega)]
        · rw [wipe_out hm, wipe_out hm, List.getElem?_set_ne (fun z => hj z.symm)]
theorem wipe_none {j : Nat} : ∀ {σ : L2.St} {ws : List Nat}, j ∈ ws → j < σ.length → (L2.wipe σ ws)[j]? = some none := by
  intro σ ws
  induction ws with
  | nil => intro h; cases h
  | cons w ws ih =>
    intro h hl
    unfold L2.wipe
    by_cases e : w = j
    · subst e
      rw [List.getElem?_set_self (by rw [wipe_length]; exact hl)]
    · rw [List.getElem?_set_ne e]
      rcases List.mem_cons.mp h with z | z
      · exact absurd z.symm e
      · exact ih z hl
theorem wipe_wipe (σ : L2.St) (vs : List Nat) : L2.wipe (L2.wipe σ vs) vs = L2.wipe σ vs := by
  refine List.ext_getElem? fun j => ?_
  by_cases hm : j ∈ vs
  · by_cases hl : j < σ.length
    · rw [wipe_none hm (by rw [wipe_length]; exact hl), wipe_none hm hl]
    · rw [List.getElem?_eq_none (by rw [wipe_length, wipe_length]; omega), List.getElem?_eq_none (by rw [wipe_length]; omega)]
  · rw [wipe_out hm]
/-- a target of a comprehension: it stores into the block's own slots alone -/
def Only (t : TG) (vs : List Nat) : Prop := ∀ v σ H (Q Q' : L2.St → Hp → Prop), (∀ σ' H', L2.wipe σ' vs = L2.wipe σ vs → Q σ' H' → Q' σ' H') → t v σ H Q → t v σ H Q'
def OnlyS (t : TGs) (vs : List Nat) : Prop := ∀ v σ H (Q Q' : L2.St → Hp → Prop), (∀ σ' H', L2.wipe σ' vs = L2.wipe σ vs → Q σ' H' → Q' σ' H') → t v σ H Q → t v σ H Q'
structure LcT (X : CB) (scope : Scope) (vs : List Nat) (tg : Expr) (u : DG) : Prop where
  ex : ∃ t, (∀ (s : Shared) (H : Hp) (C : Addr) (cl : List (Str × Addr)) (fp : List Addr), PG (X.X.blk s H scope (compEnvC scope cl C X.env) fp) tg t) ∧ LG X.K t u ∧ Only t vs
structure LcTs (X : CB) (scope : Scope) (vs : List Nat) (tg : List Expr) (u : DGs) : Prop where
  ex : ∃ t, (∀ (s : Shared) (H : Hp) (C : Addr) (cl : List (Str × Addr)) (fp : List Addr), PGs (X.X.blk s H scope (compEnvC scope cl C X.env) fp) tg t) ∧ LGs X.K t u ∧ OnlyS t vs
section
variable {X : CB} {scope : Scope} {vs : List Nat} {K : KB}
theorem lt_name (i : Nat) {x : Str} {pos : Pos} (hN : X.N.Nodup) (hi : X.N[i]? = some x := by rfl) (hx : ∀ (s : Shared) (H : Hp) (C : Addr) (cl : List (Str × Addr)) (fp : List Addr), Loc (X.X.blk s H scope (compEnvC scope cl C X.env) fp).env.scope x := by intro _ _ _ _ _; first | exact Or.inl rfl | exact Or.inr rfl)
    (hf : ∀ (s : Shared) (H : Hp) (C : Addr) (cl : List (Str × Addr)) (fp : List Addr), (X.X.blk s H scope (compEnvC scope cl C X.env) fp).fn x = true ∨ (X.X.blk s H scope (compEnvC scope cl C X.env) fp).env.scope.names.lookup x = some .local := by intro _ _ _ _ _; first | exact .inl rfl | exact .inr rfl)
    (hv : i ∈ vs := by decide) : LcT X scope vs (.Name x pos) (dgN i) :=
  ⟨_, fun s H C cl fp => pg_name (i := i) hN hi (hx s H C cl fp) (hf s H C cl fp), fun g H σ ds M d v r s rd Q q R k => k g H _ _ M (Gx.refl g H) r (s.set rd i) q, fun v σ H Q Q' f q => f _ _ (wipe_set hv) q⟩
theorem lts_nil : LcTs X scope vs [] dgNil := ⟨_, fun s H C cl fp => pgs_nil, fun g H σ ds M d v r s rd Q q R k => by
  cases rd with
  | nil => exact ⟨rfl, k g H σ ds M (Gx.refl g H) r s q⟩
  | cons _ _ => exact q.elim, fun v σ H Q Q' f q => ⟨q.1, f _ _ rfl q.2⟩⟩
theorem lts_cons {e : Expr} {es : List Expr} {t : DG} {u : DGs} (h1 : LcT X scope vs e t) (h2 : LcTs X scope vs es u)
    (hs : ∀ (s : Shared) (H : Hp) (C : Addr) (cl : List (Str × Addr)) (fp : List Addr), (assignEach (e :: es) (X.X.blk s H scope (compEnvC scope cl C X.env) fp).env).map (·.2) = assign e (X.X.blk s H scope (compEnvC scope cl C X.env) fp).env :: (assignEach es (X.X.blk s H scope (compEnvC scope cl C X.env) fp).env).map (·.2) := by intro _ _ _ _ _; rfl) :
    LcTs X scope vs (e :: es) (dgCons t u) := by
  obtain ⟨t1, p1, l1, o1⟩ := h1.ex
  obtain ⟨t2, p2, l2, o2⟩ := h2.ex
  refine ⟨_, fun s H C cl fp => pgs_cons (p1 s H C cl fp) (p2 s H C cl fp) (hs s H C cl fp), fun g H σ ds M d v r s rd Q q R k => ?_, fun v σ H Q Q' f q => ?_⟩
  · cases rd with
    | nil => exact q.elim
    | cons h hr => exact ⟨_, _, rfl, l1 g H σ ds M _ _ r s h _ q _ fun g1 H1 σ1 ds1 M1 x r1 s1 q1 => l2 g1 H1 σ1 ds1 M1 _ _ r1 s1 (hr.mono x) Q q1 R (k.on x)⟩
  · obtain ⟨y, r, e1, q⟩ := q
    exact ⟨y, r, e1, o1 y σ H _ _ (fun σ1 H1 w1 q1 => o2 r σ1 H1 _ _ (fun σ2 H2 w2 q2 => f _ _ (w2.trans w1) q2) q1) q⟩
theorem lt_tup {es : List Expr} {k : Nat} {u : DGs} {n : Nat} {pos : Pos} (hc : X.calm = true) (h : LcTs X scope vs es u)
    (hn : ∀ (s : Shared) (H : Hp) (C : Addr) (cl : List (Str × Addr)) (fp : List Addr), (assignEach es (X.X.blk s H scope (compEnvC scope cl C X.env) fp).env).length = n := by intro _ _ _ _ _; rfl)
    (hst : ∀ (s : Shared) (H : Hp) (C : Addr) (cl : List (Str × Addr)) (fp : List Addr), (assignEach es (X.X.blk s H scope (compEnvC scope cl C X.env) fp).env).findIdx? (·.1) = none := by intro _ _ _ _ _; rfl) : LcT X scope vs (.Tuple es k pos) (dgTup n u) := by
  obtain ⟨t, p, l, o⟩ := h.ex
  refine ⟨gTup X.K n t, fun s H C cl fp => pg_tup (X := X.X.blk s H scope (compEnvC scope cl C X.env) fp) hc (p s H C cl fp) (hn s H C cl fp) (hst s H C cl fp), fun g H σ ds M d v r s rd Q q R k => ?_, fun v σ H Q Q' f q => ?_⟩
  · cases rd with
    | tup h1 r1 => exact ⟨_, _, rfl, same_t r.ex h1, by rw [← r1.len]; exact q.1, l g H σ ds M _ _ r s r1 Q q.2 R k⟩
    | _ => exact q.elim
  · obtain ⟨a, xs, e1, e2, e3, q⟩ := q
    exact ⟨a, xs, e1, e2, e3, o xs σ H _ _ f q⟩
def dLcL (chk : MM → Prop) (gt : DG) (ut : DT) (ue : DE) (dw : DEnv) (Q : List D → MM → Prop) : List D → List D → MM → Prop
  | [], acc, M => chk M ∧ Q acc M
  | x :: xs, acc, M => chk M ∧ gt x dw M fun ds2 M2 => ut ds2 M2 fun b M3 => if b = true then ue ds2 M3 fun y M4 => acc.length < sizeLine ∧ dLcL chk gt ut ue dw Q xs (acc ++ [y]) M4 else dLcL chk gt ut ue dw Q xs acc M3
def dLc (ui : DI) (gt : DG) (ut : DT) (ue : DE) (vs : List Nat) : DE := fun ds M Q => ui ds M fun xs chk M1 => dLcL chk gt ut ue (wipeD ds vs) (fun ys M2 => Q (.lst ys) M2) xs [] M1
theorem adopt {g0 g : G} {H0 H : Hp} {M : MM} {p : Addr} {o : HO} (x : Gx g0 H0 g H) (h0 : H0 p = none) (r : RelM K g H M) (hb : K.H0 p = none) (hp : H p = some o) (hn : p ∉ g.as) (hf : g.F p = none) :
    Gr g ⟨upd g.F p o, g.as⟩ ∧ Gx g0 H0 ⟨upd g.F p o, g.as⟩ H ∧ RelM K ⟨upd g.F p o, g.as⟩ H M := by
  have gr : Gr g ⟨upd g.F p o, g.as⟩ := ⟨same_new hf, [], (List.append_nil _).symm⟩
  have on : ∀ {g0 : G} {H0 : Hp}, Gx g0 H0 g H → H0 p = none → Gx g0 H0 ⟨upd g.F p o, g.as⟩ H := fun x h0 => by
    refine ⟨x.gr.trans gr, x.keep, x.new, fun a ha => ?_⟩
    by_cases e : a = p
    · subst e
      exact .inr (.inr h0)
    · rcases x.newF a ha with z | z
      · left
        show upd g.F p o a = none
        rw [upd_ne e]
        exact z
      · exact .inr z
  refine ⟨gr, on x h0, ⟨fun b u e => ?_, r.len, r.nd, r.tk, fun n a mo h1 h2 => ?_, on r.up hb⟩⟩
  · have e' : upd g.F p o b = some u := e
    by_cases hb : b = p
    · subst hb
      rw [upd_same] at e'
      rw [hp]
      exact e'
    · rw [upd_ne hb] at e'
      exact r.ex _ _ e'
  · have h1' : g.as[n]? = some a := h1
    refine (r.ob n a mo h1' h2).mono gr (fun f => ?_) fun _ q => q
    show upd g.F p o a = none
    rw [upd_ne (fun (z : a = p) => hn (by rw [← z]; exact List.mem_of_getElem? h1'))]
    exact f
/-- a thing outside of the store is changed -/
theorem RelM.aside {g : G} {H : Hp} {M : MM} {p : Addr} {o : HO} (r : RelM K g H M) (h0 : K.H0 p = none) (hn : p ∉ g.as) (hf : g.F p = none) : RelM K g (upd H p o) M := by
  refine ⟨fun b u e => ?_, r.len, r.nd, fun a ha => ?_, fun n a mo h1 h2 => ?_, ⟨r.up.gr, fun a u ha e => ?_, r.up.new, r.up.newF⟩⟩
  · rw [upd_ne (ne_of_none e hf)]
    exact r.ex _ _ e
  · obtain ⟨u, e⟩ := r.tk a ha
    exact ⟨u, by rw [upd_ne (fun (z : a = p) => hn (by rw [← z]; exact ha))]; exact e⟩
  · exact (r.ob n a mo h1 h2).mono (Gr.refl g) id fun u q => by
      rw [upd_ne (fun (z : a = p) => hn (by rw [← z]; exact List.mem_of_getElem? h1))]
      exact q
  · rw [upd_ne (ne_of_none e h0)]
    exact r.up.keep a u ha e
theorem Gx.aside {g0 g : G} {H0 H : Hp} {p : Addr} {o : HO} (x : Gx g0 H0 g H) (h0 : H0 p = none) : Gx g0 H0 g (upd H p o) :=
  ⟨x.gr, fun a u ha e => by
    rw [upd_ne (ne_of_none e h0)]
    exact x.keep a u ha e, x.new, x.newF⟩
theorem le_lc {wi : TI} {ui : DI} {t : TG} {gt : DG} {tt : TT} {ut : DT} {te : TE} {ue : DE} {vs : List Nat} (li : LI K wi ui) (lg : LG K t gt) (og : Only t vs) (lt : LT K tt ut) (le : LE K te ue) : LE K (tLc wi t tt te vs) (dLc ui gt ut ue vs) := by
  intro g H σ ds M r s Q q R k
  refine li g H σ ds M r s _ q _ fun g1 H1 M1 xs chk J x r1 jk q1 => ?_
  intro p hp
  have h0 := r1.free0 hp
  have f1 : g1.F p = none := r1.ex.free hp
  have n1 : p ∉ g1.as := fun h => by
    obtain ⟨o, e⟩ := r1.tk p h
    rw [hp] at e
    cases e
  -- W: the items ahead of i are done
  refine ⟨fun i m H' => i + m = xs.length ∧ ∃ g2 M2 acc vs', Gx g1 H1 g2 H' ∧ p ∉ g2.as ∧ g2.F p = none ∧ RelM K g2 H' M2 ∧ H' p = some (.lst vs') ∧ RelL K g2 acc vs' ∧ dLcL chk gt ut ue (wipeD ds vs) (fun ys M2 => Q (.lst ys) M2) (xs.drop i) acc M2,
    ⟨xs.length, by omega, g1, M1, [], [], (Gx.refl g1 H1).aside hp, n1, f1, r1.aside h0 n1 f1, upd_same, .nil, q1⟩, fun i m H' hw => ?_⟩
  obtain ⟨em, g2, M2, acc, vs', x2, n2, f2, r2, hv, rl, q2⟩ := hw
  by_cases hi : i < xs.length
  · rw [List.drop_eq_getElem_cons hi] at q2
    obtain ⟨c2, q2⟩ := q2
    obtain ⟨hgo, hy⟩ := jk.go g2 H' M2 i xs[i] x2 r2 c2 (List.getElem?_eq_getElem hi)
    refine .inr ⟨hgo, fun H3 => ∃ g3 M3 acc3 vs3, Gx g1 H1 g3 H3 ∧ p ∉ g3.as ∧ g3.F p = none ∧ RelM K g3 H3 M3 ∧ H3 p = some (.lst vs3) ∧ RelL K g3 acc3 vs3 ∧ dLcL chk gt ut ue (wipeD ds vs) (fun ys M2 => Q (.lst ys) M2) (xs.drop (i + 1)) acc3 M3,
      fun H3 hn => ⟨m - 1, by omega, by omega, hn⟩, fun y H3 yy => ?_⟩
    obtain ⟨g3, x3, r3, rd⟩ := hy y H3 yy
    -- what p is, further on
    have far : ∀ {g4 H4}, Gx g2 H' g4 H4 → p ∉ g4.as ∧ g4.F p = none ∧ H4 p = some (.lst vs') := fun {g4 H4} z => by
      refine ⟨fun h => ?_, ?_, z.keep p _ n2 hv⟩
      · rcases z.new p h with e | e
        · exact n2 e
        · rw [hv] at e
          cases e
      · rcases z.newF p f2 with e | e | e
        · exact e
        · exact absurd e n2
        · rw [hv] at e
          cases e
    have sw : RelS K g3 (L2.wipe σ vs) (wipeD ds vs) := ((s.mono x).wipe vs).mono (x2.gr.trans x3.gr)
    refine og y _ _ _ _ (fun σ' H4' w4 z => (⟨by rw [w4]; exact wipe_wipe σ vs, z⟩ : _ ∧ _)) (lg g3 H3 _ _ M2 _ _ r3 sw rd _ q2 _ fun g4 H4 σ4 ds4 M4 x4 r4 s4 q4 => ?_)
    refine lt g4 H4 σ4 ds4 M4 r4 s4 _ q4 _ fun g5 H5 M5 b x5 r5 q5 => ?_
    have x35 := x3.trans (x4.trans x5)
    cases b with
    | true =>
      rw [if_pos rfl] at q5 ⊢
      refine le g5 H5 σ4 ds4 M5 r5 (s4.mono x5) _ q5 _ fun g6 H6 M6 dd v6 x6 r6 rd6 q6 => ?_
      obtain ⟨n6, f6, h6⟩ := far (x35.trans x6)
      refine ⟨vs', h6, by rw [← rl.len]; exact q6.1, g6, M6, acc ++ [dd], vs' ++ [v6], (x2.trans (x35.trans x6)).aside hp, n6, f6, r6.aside h0 n6 f6, upd_same, (rl.mono (x35.trans x6).gr).app (.cons rd6 .nil), q6.2⟩
    | false =>
      rw [if_neg Bool.false_ne_true] at q5 ⊢
      obtain ⟨n5, f5, h5⟩ := far x35
      exact ⟨g5, M5, acc, vs', x2.trans x35, n5, f5, r5, h5, rl.mono x35.gr, q5⟩
  · rw [List.drop_of_length_le (by omega)] at q2
    obtain ⟨c2, q2⟩ := q2
    obtain ⟨gr, xx, rr⟩ := adopt x2 hp r2 h0 hv n2 f2
    exact .inl ⟨jk.stop g2 H' M2 i x2 r2 c2 (by omega), k _ H' M2 _ _ (x.trans xx) rr (.lst (.inl upd_same) (rl.mono gr)) q2⟩
theorem xlc {elt tg iter : Expr} {ifs : List Expr} {own : List (Str × Nat)} {pos : Pos} {ui : DI} {gt : DG} {ut : DT} {ue : DE} (hc : X.calm = true) (hN : X.N.Nodup) (hi : XI X tg iter ui) (ok : BlkOk X.N X.env.scope scope own)
    (hg : LcT X scope (own.map (·.2)) tg gt) (ht : ∀ (s : Shared) (H : Hp) (C : Addr) (cl : List (Str × Addr)) (fp : List Addr), XTs (X.to (X.X.blk s H scope (compEnvC scope cl C X.env) fp)) ifs ut)
    (he : ∀ (s : Shared) (H : Hp) (C : Addr) (cl : List (Str × Addr)) (fp : List Addr), XE (X.to (X.X.blk s H scope (compEnvC scope cl C X.env) fp)) elt ue)
    (hs : ∀ x, foldedSetIterable iter X.env x = pure x := by intro _; rfl) : XE X (.ListComp elt [{ target := tg, iter := iter, ifs := ifs, is_async := 0 }] scope pos) (dLc ui gt ut ue (own.map (·.2))) := by
  obtain ⟨wi, pi, li⟩ := hi.ex
  obtain ⟨t, pg, lg, og⟩ := hg.ex
  exact ⟨_, pe_lc hc hN pi ok pg (fun s H C cl fp => (ht s H C cl fp).can) (fun s H C cl fp => (he s H C cl fp).can) hs, le_lc li lg og lt_of le_of⟩
theorem s_setLc (i : Nat) {y : Str} {py : Pos} {elt tg iter : Expr} {ifs : List Expr} {own : List (Str × Nat)} {pos spos : Pos} {ui : DI} {gt : DG} {ut : DT} {ue : DE} (hc : X.calm = true) (hN : X.N.Nodup) (hi : XI X tg iter ui) (ok : BlkOk X.N X.env.scope scope own)
    (hg : LcT X scope (own.map (·.2)) tg gt) (ht : ∀ (s : Shared) (H : Hp) (C : Addr) (cl : List (Str × Addr)) (fp : List Addr), XTs (X.to (X.X.blk s H scope (compEnvC scope cl C X.env) fp)) ifs ut)
    (he : ∀ (s : Shared) (H : Hp) (C : Addr) (cl : List (Str × Addr)) (fp : List Addr), XE (X.to (X.X.blk s H scope (compEnvC scope cl C X.env) fp)) elt ue)
    (hw : swapsWith (elt.ListComp [{ target := tg, iter := iter, ifs := ifs, is_async := 0 }] scope pos) (some (Expr.Name y py)) spos.line X.env = pure true)
    (hy : X.N[i]? = some y := by rfl) (hyl : X.env.scope.names.lookup y = some .local := by rfl)
    (hs : ∀ x, foldedSetIterable iter X.env x = pure x := by intro _; rfl) :
    XS X (.Assign [.Name y py] (.ListComp elt [{ target := tg, iter := iter, ifs := ifs, is_async := 0 }] scope pos) spos) (dAsg (dLc ui gt ut ue (own.map (·.2))) (dgN i)) := by
  obtain ⟨wi, pi, li⟩ := hi.ex
  obtain ⟨t, pg, lg, og⟩ := hg.ex
  exact ⟨_, ps_setLc hc hN hy hyl hw pi ok pg (fun s H C cl fp => (ht s H C cl fp).can) (fun s H C cl fp => (he s H C cl fp).can) hs,
    le_asg (le_lc li lg og lt_of le_of) fun g H σ ds M d v r s rd Q q R k => k g H _ _ M (Gx.refl g H) r (s.set rd i) q⟩
end
end AX

namespace AX
open PySem L2 PyProof.Rows
/-! ### calls of the text's own defs (nothing raised) -/
abbrev DSp := List D → MM → DK → Prop
def liftSp (K : PySem.W.Frag) (sp : DSp) : Sp := fun vs H Q _ => ∃ g M ds Qd, RelM ⟨K, g, H⟩ g H M ∧ RelL K g ds vs ∧ sp ds M Qd ∧ PostE ⟨K, g, H⟩ g H Qd Q
def dCall (sp : DSp) (ua : DA) : DE := fun ds M Q => ua ds M fun xs M1 => sp xs M1 Q
section
variable {X : CB} {K : KB} {k : Nat} {f : Addr} {fd : FuncData} {ps : List Str} {sp : DSp} {x : Str} {p pos : Pos} {e : Expr} {es : List Expr} {ua : DA}
theorem PostE.base {g g1 : G} {H H1 : Hp} {M1 : MM} {Q : DK} {R : VK} (r1 : RelM K g1 H1 M1) (x : Gx g H g1 H1) (k : PostE K g H Q R) : PostE ⟨K.k, g1, H1⟩ g1 H1 Q R :=
  fun g' H' M' d v y r' rd q => k g' H' M' d v (x.trans y) (r'.base rfl (r1.up.trans y)) rd q
theorem le_call {t : TA} (l : LA K t ua) : LE K (tCall (liftSp K.k sp) [] E0 t) (dCall sp ua) := fun g H σ ds M r s Q q R k =>
  l g H σ ds M r s _ q _ fun g1 H1 M1 xs vs x r1 rd q1 => by
    rw [List.append_nil]
    exact ⟨g1, M1, xs, Q, r1.start, rd, q1, PostE.base r1 x k⟩
/-- a def of the text that is known by its name -/
structure Known (P : Program) (w : World) (K : PySem.W.Frag) (mg : Str → Option Value) (base : Heap) (k : Nat) (x : Str) (ps : List Str) (sp : DSp) : Prop where
  ex : ∃ f fd, FnOk P w K mg base CX0 k f fd ps (liftSp K sp) ∧ mg x = some (.ref f) ∧ PySem.W.keepIn K (.ref f) = true ∧ Binds K fd ps []
theorem xcall (G : Known X.prog X.w X.X.K X.mg X.base k x ps sp) (hr : Room k X.A) (ha : XA X (e :: es) ua) (hg : Gl X x := by rfl) (hd : (x == ("__debug__" : Str)) = false := by decide)
    (he : starEach (e :: es) X.env = (false, eval e X.env) :: starEach es X.env := by rfl) (hpl : (backTo pos (starEach es X.env)).any (·.1) = false := by rfl) : XE X (.Call (.Name x p) (e :: es) [] pos) (dCall sp ua) := by
  obtain ⟨f, fd, F, hm, hk, hb⟩ := G.ex
  obtain ⟨t, pa, l⟩ := ha.ex
  exact ⟨_, pe_call F hr hg hm hk hb .nil pass0 pa hd he hpl, le_call l⟩
theorem xcall0 (G : Known X.prog X.w X.X.K X.mg X.base k x ps sp) (hr : Room k X.A) (hg : Gl X x := by rfl) (hd : (x == ("__debug__" : Str)) = false := by decide) : XE X (.Call (.Name x p) [] [] pos) (dCall sp dNil) := by
  obtain ⟨f, fd, F, hm, hk, hb⟩ := G.ex
  exact ⟨_, pe_call0 F hr hg hm hk hb .nil pass0 hd, fun g H σ ds M r s Q q R k => ⟨g, M, [], Q, r.start, .nil, q, PostE.base r (Gx.refl g H) k⟩⟩
/-! ### a def's body -/
/-- what the caller sees at the end: the store may be cut where nothing speaks of its end -/
def Exit (M0 : MM) (Q : DK) : DK := fun d M' => Q d M' ∨ ∃ k, M0.length ≤ k ∧ d.under k = true ∧ (∀ (n : Nat) (mo : MO), n < k → M'[n]? = some mo → mo.under k = true ∨ M0[n]? = some mo) ∧ Q d (M'.take k)
theorem Exit.keep {M0 : MM} {Q : DK} {d : D} (L : MM) (hd : d.pure = true) (q : Q d M0) : Exit M0 Q d (M0 ++ L) :=
  .inr ⟨M0.length, Nat.le_refl _, D.pure_under hd, fun n mo hn e => .inr (by rw [List.getElem?_append_left hn] at e; exact e), by rw [List.take_left]; exact q⟩
theorem Exit.all {M0 : MM} {Q : DK} {d : D} {M : MM} (q : Q d M) : Exit M0 Q d M := .inl q
theorem MO.under_mono {k m : Nat} (h : k ≤ m) : ∀ {mo : MO}, mo.under k = true → mo.under m = true
  | .gone, _ => rfl
  | .lst _, e => D.underL_mono h e
  | .dic _, e => D.underL_mono h e
  | .ins _ _, e => D.underL_mono h e
  | .fdic _ _ _, e => D.underL_mono h e
theorem exit_cut {K : PySem.W.Frag} {g g' : G} {H H' : Hp} {M0 M' : MM} {d : D} {v : V} {n : Nat} (r0 : RelM ⟨K, g, H⟩ g H M0) (x : Gx g H g' H') (r : RelM ⟨K, g, H⟩ g' H' M') (rd : RelD K g' d v) (hn : M0.length ≤ n) (ud : d.under n = true)
    (um : ∀ (m : Nat) (mo : MO), m < n → M'[m]? = some mo → mo.under n = true ∨ M0[m]? = some mo) :
    Gx g H ⟨g'.F, g'.as.take n⟩ H' ∧ RelM ⟨K, g, H⟩ ⟨g'.F, g'.as.take n⟩ H' (M'.take n) ∧ RelD K ⟨g'.F, g'.as.take n⟩ d v := by
  have hl : g.as.length ≤ n := by
    rw [r0.len]
    exact hn
  exact ⟨x.cut hl, r.cut hl fun m mo hm e => by
    rcases um m mo hm e with z | z
    · exact z
    · exact MO.under_mono hn (r0.low z), RelD.cut (F := g'.F) (as := g'.as) rd ud⟩
theorem exit_ok {K : PySem.W.Frag} {g g' : G} {H H' : Hp} {M0 M' : MM} {Q : DK} {R : VK} {d : D} {v : V} (r0 : RelM ⟨K, g, H⟩ g H M0) (x : Gx g H g' H') (r : RelM ⟨K, g, H⟩ g' H' M') (rd : RelD K g' d v) (q : Exit M0 Q d M') (k : PostE ⟨K, g, H⟩ g H Q R) : R v H' := by
  rcases q with q | ⟨n, hn, ud, um, q⟩
  · exact k g' H' M' d v x r rd q
  · obtain ⟨x', r', rd'⟩ := exit_cut r0 x r rd hn ud um
    exact k _ H' _ d v x' r' rd' q
/-- the names' values at the entry -/
def startD (N : List Str) (ds : List D) : DEnv := ds.map some ++ List.replicate (N.length - ds.length) none
theorem relS_start {K : PySem.W.Frag} {g : G} {N : List Str} {ds : List D} {vs : List V} (r : RelL K g ds vs) : RelS K g (L2.start N vs) (startD N ds) := by
  unfold L2.start startD
  refine ⟨by rw [List.length_append, List.length_append, List.length_map, List.length_map, List.length_replicate, List.length_replicate, r.len], fun i d e => ?_⟩
  by_cases hi : i < ds.length
  · rw [List.getElem?_append_left (by rw [List.length_map]; exact hi), List.getElem?_map] at e
    cases q : ds[i]? with
    | none =>
      rw [q] at e
      cases e
    | some d' =>
      rw [q] at e
      have e' : d' = d := Option.some.inj (Option.some.inj e)
      subst e'
      obtain ⟨v, ev, rv⟩ := r.got q
      exact ⟨v, by rw [List.getElem?_append_left (by rw [List.length_map, ← r.len]; exact hi), List.getElem?_map, ev]; rfl, rv⟩
  · rw [List.getElem?_append_right (by rw [List.length_map]; omega), List.getElem?_replicate] at e
    split at e <;> cases e
theorem fn_ok {P : Program} {w : World} {K : PySem.W.Frag} {mg : Str → Option Value} {base : Heap} {x qual : Str} {st : Stmt} {f : Addr} {fd : FuncData} {N ps : List Str} {k : Nat} {sp : DSp} (F : Fun K x qual st f fd) (S : FnScope N ps (defScope st)) (len : ∀ ds M Q, sp ds M Q → ds.length = ps.length)
    (hbody : ∀ (cdv : Value) (A : Around) (outer : List Env) (s : Shared) (H : Hp) (E : XK) (g0 : G) (H0 : Hp), Room k (A.deeper (envOfC qual (defScope st) s.heap.objs.size f cdv)) →
      ∃ u, XSs ⟨(cxOf CX0 P w K mg base N qual (defScope st) f cdv A outer s H E).nox, g0, H0⟩ (defBody st) u ∧ ∀ ds M Q, sp ds M Q → u { nx := fun _ M' => Exit M Q .non M', rt := Exit M Q } (startD N ds) M) : FnOk P w K mg base CX0 (k + 1) f fd ps (liftSp K sp) := by
  refine F.ok S (fun vs H Q E h => ?_) (fun cdv A outer s H vs Q E hr h => ?_)
  · obtain ⟨g, M, ds, Qd, r, rl, q, _⟩ := h
    rw [← rl.len]
    exact len _ _ _ q
  · obtain ⟨g, M, ds, Qd, r, rl, q, kk⟩ := h
    obtain ⟨u, xs, hu⟩ := hbody cdv A outer s H E g H hr
    obtain ⟨t, p, l⟩ := xs.ex
    refine ⟨t, p, l g H _ _ M r (relS_start rl) _ (hu ds M Qd q) _ ⟨fun g' H' σ' ds' M' y r' s' q' => ?_, fun g' H' M' d v y r' rd q' => ?_, fun g' H' σ' ds' M' y r' s' q' => q'.elim, fun g' H' σ' ds' M' y r' s' q' => q'.elim⟩⟩
    · exact exit_ok r y r' .non q' kk
    · exact exit_ok r y r' rd q' kk
theorem known_mk {P : Program} {w : World} {K : PySem.W.Frag} {mg : Str → Option Value} {base : Heap} {x qual : Str} {st : Stmt} {f : Addr} {fd : FuncData} {ps : List Str} {k : Nat} {sp : DSp} (F : Fun K x qual st f fd) (ok : FnOk P w K mg base CX0 k f fd ps (liftSp K sp)) (hm : mg x = some (.ref f)) (hb : Binds K fd ps []) : Known P w K mg base k x ps sp := ⟨f, fd, ok, hm, F.kp, hb⟩
theorem Known.mono {P : Program} {w : World} {K : PySem.W.Frag} {mg : Str → Option Value} {base : Heap} {x : Str} {ps : List Str} {j k : Nat} {sp : DSp} (G : Known P w K mg base j x ps sp) (h : j ≤ k) : Known P w K mg base k x ps sp := by
  obtain ⟨f, fd, F, hm, hk, hb⟩ := G.ex
  exact ⟨f, fd, F.mono h, hm, hk, hb⟩
end
/-! ### built-ins called by their names -/
section
variable {X : CB} {K : KB} {x : Str} {p pos : Pos} {e : Expr} {es : List Expr} {ua : DA} {bid T : String} {r : List V → Hp → VK → Prop} {u : DL}
def dCB (u : DL) (ua : DA) : DE := fun ds M Q => ua ds M fun xs M1 => u xs M1 Q
theorem le_cb {t : TA} (l : LA K t ua) (lr : LC K r u) : LE K (tCB r t) (dCB u ua) := fun g H σ ds M rm s Q q R k =>
  l g H σ ds M rm s _ q _ fun g1 H1 M1 xs vs x r1 rd q1 => lr g1 H1 M1 xs vs r1 rd Q q1 R (k.on x)
theorem xcb (hc : CallR X (.builtin bid) r) (hl : LC X.K r u) (hm : X.mg x = none) (hv : bootBuiltins x = some (.builtin bid)) (ha : XA X (e :: es) ua) (hg : Gl X x := by rfl) (hn : x ≠ "__name__" := by decide) (hdb : (x == ("__debug__" : Str)) = false := by decide)
    (he : starEach (e :: es) X.env = (false, eval e X.env) :: starEach es X.env := by rfl) (hpl : (backTo pos (starEach es X.env)).any (·.1) = false := by rfl) : XE X (.Call (.Name x p) (e :: es) [] pos) (dCB u ua) := by
  obtain ⟨t, pa, l⟩ := ha.ex
  exact ⟨_, pe_callB hc hg hm hv pa hn hdb he hpl, le_cb l hl⟩
theorem xct (hc : CallR X (.type T) r) (hl : LC X.K r u) (hm : X.mg x = none) (hv : bootBuiltins x = some (.type T)) (ha : XA X (e :: es) ua) (hg : Gl X x := by rfl) (hn : x ≠ "__name__" := by decide) (hdb : (x == ("__debug__" : Str)) = false := by decide)
    (he : starEach (e :: es) X.env = (false, eval e X.env) :: starEach es X.env := by rfl) (hpl : (backTo pos (starEach es X.env)).any (·.1) = false := by rfl) : XE X (.Call (.Name x p) (e :: es) [] pos) (dCB u ua) := by
  obtain ⟨t, pa, l⟩ := ha.ex
  exact ⟨_, pe_callTy hc hg hm hv pa hn hdb he hpl, le_cb l hl⟩
/-- one argument -/
abbrev a1 (f : D → MM → DK → Prop) : DL := fun xs M Q => match xs with
  | [x] => f x M Q
  | _ => False
abbrev a2 (f : D → D → MM → DK → Prop) : DL := fun xs M Q => match xs with
  | [x, y] => f x y M Q
  | _ => False
theorem lc_a1 {r : List V → Hp → VK → Prop} {f : D → MM → DK → Prop} (h : ∀ g H M x v, RelM K g H M → RelD K g x v → ∀ Q, f x M Q → ∀ R, PostE K g H Q R → r [v] H R) : LC K r (a1 f) := fun g H M xs vs rm rl Q q R k => by
  cases rl with
  | nil => exact q.elim
  | cons h1 h2 => cases h2 with
    | nil => exact h g H M _ _ rm h1 Q q R k
    | cons _ _ => exact q.elim
theorem lc_a2 {r : List V → Hp → VK → Prop} {f : D → D → MM → DK → Prop} (h : ∀ g H M x y v w, RelM K g H M → RelD K g x v → RelD K g y w → ∀ Q, f x y M Q → ∀ R, PostE K g H Q R → r [v, w] H R) : LC K r (a2 f) := fun g H M xs vs rm rl Q q R k => by
  cases rl with
  | nil => exact q.elim
  | cons h1 h2 => cases h2 with
    | nil => exact q.elim
    | cons h3 h4 => cases h4 with
      | nil => exact h g H M _ _ _ _ rm h1 h3 Q q R k
      | cons _ _ => exact q.elim
/-- len -/
def lenD (x : D) (M : MM) (Q : DK) : Prop := match x with
  | .str y => y.length ≤ sizeLine ∧ Q (.int (y.length : Nat)) M
  | .tup xs => Q (.int (xs.length : Nat)) M
  | .lst xs => Q (.int (xs.length : Nat)) M
  | .loc n => match M[n]? with
    | some (.lst xs) => Q (.int (xs.length : Nat)) M
    | some (.dic kvs) => Q (.int (kvs.length : Nat)) M
    | _ => False
  | _ => False
theorem call_lenD2 : CallR X (.builtin "len") (fun xs H Q => ∃ a kvs, xs = [.ref a] ∧ Rd H a (.dK kvs) ∧ Q (.int kvs.length) H) := by
  intro pins s σ H xs us Q I r h
  obtain ⟨a, kvs, rfl, e, q⟩ := h
  obtain rfl := Vals.ref1 r
  exact d_len I e fun t s' I' => ⟨.int kvs.length, H, I', ⟨t, rfl⟩, q⟩
def rLenD (K : PySem.W.Frag) : List V → Hp → VK → Prop := fun xs H Q => (∃ x n, xs = [x] ∧ LenV K x H n ∧ Q (.int n) H) ∨ ∃ a kvs, xs = [.ref a] ∧ Rd H a (.dK kvs) ∧ Q (.int kvs.length) H
theorem cLen : CallR X (.builtin "len") (rLenD X.K) := CallR.or call_len call_lenD2
theorem lcLen : LC K (rLenD K) (a1 lenD) := lc_a1 fun g H M x v r rx Q q R k => by
  cases rx with
  | str y => exact .inl ⟨_, y.length, rfl, ⟨q.1, rfl⟩, k g H M _ _ (Gx.refl g H) r (.int _) q.2⟩
  | tup h1 r1 => exact .inl ⟨_, _, rfl, .inr ⟨_, same_t r.ex h1, r1.len⟩, k g H M _ _ (Gx.refl g H) r (.int _) q⟩
  | lst h1 r1 => exact .inl ⟨_, _, rfl, .inl ⟨_, .inl (same_rd r.ex h1), r1.len⟩, k g H M _ _ (Gx.refl g H) r (.int _) q⟩
  | loc h1 =>
    rename_i n p
    unfold lenD at q
    simp only at q
    split at q
    · rename_i xs e
      obtain ⟨_, vs, hv, rl⟩ := r.ob n p _ h1 e
      exact .inl ⟨_, _, rfl, .inl ⟨vs, .inl (.inl hv), rl.len⟩, k g H M _ _ (Gx.refl g H) r (.int _) q⟩
    · rename_i kvs e
      obtain ⟨_, vs, hv, rl⟩ := r.ob n p _ h1 e
      exact .inr ⟨p, vs, rfl, .inl hv, by rw [← rl.len]; exact k g H M _ _ (Gx.refl g H) r (.int _) q⟩
    · exact q.elim
  | _ => exact q.elim
/-- list(..) of a list, a tuple -/
def listD (x : D) (M : MM) (Q : DK) : Prop := match x with
  | .tup xs => Q (.lst xs) M
  | .scr xs => Q (.lst xs) M
  | x => match seqOf M x with
    | some xs => Q (.lst xs) M
    | none => False
theorem lcList : LC K (fun xs H Q => ∃ p ys, xs = [.ref p] ∧ (SqL K H p ys ∨ SqT K H p ys) ∧ ∀ l, H l = none → Q (.ref l) (upd H l (.lst ys))) (a1 listD) := lc_a1 fun g H M x v r rx Q q R k => by
  unfold listD at q
  split at q
  · cases rx with
    | tup h1 r1 =>
      refine ⟨_, _, rfl, .inr (same_t r.ex h1), fun l hl => ?_⟩
      obtain ⟨g2, x2, r2, rd⟩ := newL r r1 hl
      exact k g2 _ M _ _ x2 r2 rd q
  · cases rx with
    | scr h1 r1 =>
      refine ⟨_, _, rfl, .inl (r.ex.seq h1), fun l hl => ?_⟩
      obtain ⟨g2, x2, r2, rd⟩ := newL r r1 hl
      exact k g2 _ M _ _ x2 r2 rd q
  · split at q
    · rename_i xs e
      obtain ⟨p, vs, rfl, hp, rl⟩ := seq_rel r rx e
      refine ⟨_, _, rfl, .inl (.inl hp), fun l hl => ?_⟩
      obtain ⟨g2, x2, r2, rd⟩ := newL r rl hl
      exact k g2 _ M _ _ x2 r2 rd q
    · exact q.elim
/-- list(..) that is to be changed -/
def listN (x : D) (M : MM) (Q : DK) : Prop := listD x M fun d M1 => match d with
  | .lst xs => Q (.loc M1.length) (M1 ++ [.lst xs])
  | _ => False
theorem lcListN : LC K (fun xs H Q => ∃ p ys, xs = [.ref p] ∧ (SqL K H p ys ∨ SqT K H p ys) ∧ ∀ l, H l = none → Q (.ref l) (upd H l (.lst ys))) (a1 listN) := lc_a1 fun g H M x v r rx Q q R k => by
  unfold listN listD at q
  split at q
  · cases rx with
    | tup h1 r1 =>
      refine ⟨_, _, rfl, .inr (same_t r.ex h1), fun l hl => ?_⟩
      obtain ⟨g2, x2, r2, rd⟩ := newM r r1 hl
      exact k g2 _ _ _ _ x2 r2 rd q
  · cases rx with
    | scr h1 r1 =>
      refine ⟨_, _, rfl, .inl (r.ex.seq h1), fun l hl => ?_⟩
      obtain ⟨g2, x2, r2, rd⟩ := newM r r1 hl
      exact k g2 _ _ _ _ x2 r2 rd q
  · split at q
    · rename_i xs e
      obtain ⟨p, vs, rfl, hp, rl⟩ := seq_rel r rx e
      refine ⟨_, _, rfl, .inl (.inl hp), fun l hl => ?_⟩
      obtain ⟨g2, x2, r2, rd⟩ := newM r rl hl
      exact k g2 _ _ _ _ x2 r2 rd q
    · exact q.elim
/-- int(..) -/
def intD (x : D) (M : MM) (Q : DK) : Prop := match x with
  | .int i => Q (.int i) M
  | .bl b => Q (.int (if b then 1 else 0)) M
  | .str a => a.length ≤ 640 ∧ match PySem.intText? a with
    | some n => Q (.int n) M
    | none => False
  | _ => False
def rIntD : List V → Hp → VK → Prop := fun xs H Q => ((∃ i, xs = [.int i] ∧ Q (.int i) H) ∨ ∃ k, xs = [.bl k] ∧ Q (.int (if k then 1 else 0)) H) ∨ ∃ a n, xs = [.str a] ∧ PySem.intText? a = some n ∧ a.length ≤ 640 ∧ Q (.int n) H
theorem cInt : CallR X (.type "int") rIntD := CallR.or call_int1 call_int_str
theorem lcInt : LC K rIntD (a1 intD) := lc_a1 fun g H M x v r rx Q q R k => by
  cases rx with
  | int i => exact .inl (.inl ⟨i, rfl, k g H M _ _ (Gx.refl g H) r (.int _) q⟩)
  | bl b => exact .inl (.inr ⟨b, rfl, k g H M _ _ (Gx.refl g H) r (.int _) q⟩)
  | str a =>
    obtain ⟨hl, q⟩ := q
    split at q
    · rename_i n e
      exact .inr ⟨a, n, rfl, e, hl, k g H M _ _ (Gx.refl g H) r (.int _) q⟩
    · exact q.elim
  | _ => exact q.elim
def absD (x : D) (M : MM) (Q : DK) : Prop := match x with
  | .int i => Q (.int (if i < 0 then -i else i)) M
  | _ => False
theorem lcAbs : LC K (fun xs H Q => ∃ i, xs = [.int i] ∧ Q (.int (if i < 0 then -i else i)) H) (a1 absD) := lc_a1 fun g H M x v r rx Q q R k => by
  cases rx with
  | int i => exact ⟨i, rfl, k g H M _ _ (Gx.refl g H) r (.int _) q⟩
  | _ => exact q.elim
def strD (x : D) (M : MM) (Q : DK) : Prop := match x with
  | .int i => i.natAbs.log2 < 1920 ∧ Q (.str (toString i)) M
  | _ => False
theorem lcStr : LC K (fun xs H Q => ∃ i : Int, xs = [.int i] ∧ i.natAbs.log2 < 1920 ∧ Q (.str (toString i)) H) (a1 strD) := lc_a1 fun g H M x v r rx Q q R k => by
  cases rx with
  | int i => exact ⟨i, rfl, q.1, k g H M _ _ (Gx.refl g H) r (.str _) q.2⟩
  | _ => exact q.elim
/-- max, min of two -/
def max2D (x y : D) (M : MM) (Q : DK) : Prop := match x with
  | .int i => match y with
    | .int j => Q (.int (if j > i then j else i)) M
    | _ => False
  | _ => False
def min2D (x y : D) (M : MM) (Q : DK) : Prop := match x with
  | .int i => match y with
    | .int j => Q (.int (if j < i then j else i)) M
    | _ => False
  | _ => False
theorem lcMax2 : LC K (fun xs H Q => ∃ i j, xs = [.int i, .int j] ∧ Q (.int (if j > i then j else i)) H) (a2 max2D) := lc_a2 fun g H M x y v w r rx ry Q q R k => by
  cases rx with
  | int i => cases ry with
    | int j => exact ⟨i, j, rfl, k g H M _ _ (Gx.refl g H) r (.int _) q⟩
    | _ => exact q.elim
  | _ => exact q.elim
theorem lcMin2 : LC K (fun xs H Q => ∃ i j, xs = [.int i, .int j] ∧ Q (.int (if j < i then j else i)) H) (a2 min2D) := lc_a2 fun g H M x y v w r rx ry Q q R k => by
  cases rx with
  | int i => cases ry with
    | int j => exact ⟨i, j, rfl, k g H M _ _ (Gx.refl g H) r (.int _) q⟩
    | _ => exact q.elim
  | _ => exact q.elim
/-- lists of ints, of truth values -/
def intsOf : List D → Option (List Int)
  | [] => some []
  | .int i :: r => match intsOf r with
    | some ns => some (i :: ns)
    | none => none
  | _ => none
theorem intsOf_map : ∀ ns : List Int, intsOf (ns.map D.int) = some ns
  | [] => rfl
  | n :: ns => by rw [List.map_cons, intsOf, intsOf_map ns]
theorem intsOf_eq : ∀ {ds : List D} {ns : List Int}, intsOf ds = some ns → ds = ns.map D.int
  | [], ns, h => by
    have e := Option.some.inj h
    subst e
    rfl
  | .int i :: r, ns, h => by
    unfold intsOf at h
    split at h
    · rename_i ms e
      have e2 := Option.some.inj h
      subst e2
      rw [List.map_cons, intsOf_eq e]
    · cases h
  | .non :: _, _, h | .bl _ :: _, _, h | .str _ :: _, _, h | .lst _ :: _, _, h | .tup _ :: _, _, h | .loc _ :: _, _, h | .ty _ :: _, _, h | .scr _ :: _, _, h => by simp [intsOf] at h
def blsOf : List D → Option (List Bool)
  | [] => some []
  | .bl i :: r => match blsOf r with
    | some ns => some (i :: ns)
    | none => none
  | _ => none
theorem blsOf_map : ∀ ns : List Bool, blsOf (ns.map D.bl) = some ns
  | [] => rfl
  | n :: ns => by rw [List.map_cons, blsOf, blsOf_map ns]
theorem blsOf_eq : ∀ {ds : List D} {ns : List Bool}, blsOf ds = some ns → ds = ns.map D.bl
  | [], ns, h => by
    have e := Option.some.inj h
    subst e
    rfl
  | .bl i :: r, ns, h => by
    unfold blsOf at h
    split at h
    · rename_i ms e
      have e2 := Option.some.inj h
      subst e2
      rw [List.map_cons, blsOf_eq e]
    · cases h
  | .non :: _, _, h | .int _ :: _, _, h | .str _ :: _, _, h | .lst _ :: _, _, h | .tup _ :: _, _, h | .loc _ :: _, _, h | .ty _ :: _, _, h | .scr _ :: _, _, h => by simp [blsOf] at h
def onInts (x : D) (M : MM) (f : List Int → Prop) : Prop := match seqOf M x with
  | some xs => match intsOf xs with
    | some ns => f ns
    | none => False
  | none => False
def onBls (x : D) (M : MM) (f : List Bool → Prop) : Prop := match seqOf M x with
  | some xs => match blsOf xs with
    | some ns => f ns
    | none => False
  | none => False
theorem onInts_rel {g : G} {H : Hp} {M : MM} {x : D} {v : V} {f : List Int → Prop} (r : RelM K g H M) (rx : RelD K g x v) (q : onInts x M f) : ∃ (p : Addr) (ns : List Int), v = .ref p ∧ SqL K H p (ns.map V.int) ∧ f ns := by
  unfold onInts at q
  split at q
  · rename_i xs e
    split at q
    · rename_i ns e2
      obtain ⟨p, vs, rfl, hp, rl⟩ := seq_rel r rx e
      rw [intsOf_eq e2] at rl
      rw [rl.ints] at hp
      exact ⟨p, ns, rfl, .inl hp, q⟩
    · exact q.elim
  · exact q.elim
theorem onBls_rel {g : G} {H : Hp} {M : MM} {x : D} {v : V} {f : List Bool → Prop} (r : RelM K g H M) (rx : RelD K g x v) (q : onBls x M f) : ∃ (p : Addr) (ns : List Bool), v = .ref p ∧ SqL K H p (ns.map V.bl) ∧ f ns := by
  unfold onBls at q
  split at q
  · rename_i xs e
    split at q
    · rename_i ns e2
      obtain ⟨p, vs, rfl, hp, rl⟩ := seq_rel r rx e
      rw [blsOf_eq e2] at rl
      rw [rl.bls] at hp
      exact ⟨p, ns, rfl, .inl hp, q⟩
    · exact q.elim
  · exact q.elim
theorem lcSum : LC K (rSum K) (a1 fun x M Q => onInts x M fun ns => Q (.int ns.sum) M) := lc_a1 fun g H M x v r rx Q q R k => by
  obtain ⟨p, ns, rfl, hp, q⟩ := onInts_rel r rx q
  exact ⟨p, ns, rfl, hp, k g H M _ _ (Gx.refl g H) r (.int _) q⟩
theorem lcMax : LC K (rMax K) (a1 fun x M Q => onInts x M fun ns => 0 < ns.length ∧ ∀ m, m ∈ ns → (∀ y, y ∈ ns → y ≤ m) → Q (.int m) M) := lc_a1 fun g H M x v r rx Q q R k => by
  obtain ⟨p, ns, rfl, hp, q⟩ := onInts_rel r rx q
  exact ⟨p, ns, rfl, hp, q.1, fun m h1 h2 => k g H M _ _ (Gx.refl g H) r (.int _) (q.2 m h1 h2)⟩
theorem lcMin : LC K (rMin K) (a1 fun x M Q => onInts x M fun ns => 0 < ns.length ∧ ∀ m, m ∈ ns → (∀ y, y ∈ ns → m ≤ y) → Q (.int m) M) := lc_a1 fun g H M x v r rx Q q R k => by
  obtain ⟨p, ns, rfl, hp, q⟩ := onInts_rel r rx q
  exact ⟨p, ns, rfl, hp, q.1, fun m h1 h2 => k g H M _ _ (Gx.refl g H) r (.int _) (q.2 m h1 h2)⟩
theorem lcAny : LC K (rAny K) (a1 fun x M Q => onBls x M fun bs => Q (.bl (bs.any fun b => b)) M) := lc_a1 fun g H M x v r rx Q q R k => by
  obtain ⟨p, ns, rfl, hp, q⟩ := onBls_rel r rx q
  exact ⟨p, ns, rfl, hp, k g H M _ _ (Gx.refl g H) r (.bl _) q⟩
theorem lcAll : LC K (rAll K) (a1 fun x M Q => onBls x M fun bs => Q (.bl (bs.all fun b => b)) M) := lc_a1 fun g H M x v r rx Q q R k => by
  obtain ⟨p, ns, rfl, hp, q⟩ := onBls_rel r rx q
  exact ⟨p, ns, rfl, hp, k g H M _ _ (Gx.refl g H) r (.bl _) q⟩
/-- sorted, of ints: any length -/
theorem lcSorted : LC K (rSortedI K) (a1 fun x M Q => onInts x M fun ns => ∀ ns' : List Int, ns'.Perm ns → ns'.Pairwise (· ≤ ·) → Q (.lst (ns'.map D.int)) M) := lc_a1 fun g H M x v r rx Q q R k => by
  obtain ⟨p, ns, rfl, hp, q⟩ := onInts_rel r rx q
  refine ⟨p, ns, rfl, hp, fun ns' l h1 h2 hl => ?_⟩
  obtain ⟨g2, x2, r2, rd⟩ := newL r (RelL.of_ints (K := K) (g := g) ns') hl
  exact k g2 _ M _ _ x2 r2 rd (q ns' h1 h2)
/-! isinstance of a built-in type -/
def tyName (M : MM) : D → String
  | .non => "NoneType"
  | .bl _ => "bool"
  | .int _ => "int"
  | .str _ => "str"
  | .lst _ => "list"
  | .tup _ => "tuple"
  | .loc n => match M[n]? with
    | some (.lst _) => "list"
    | some (.dic _) => "dict"
    | _ => ""
  | .ty _ => ""
  | .scr _ => "list"
  | .exn _ => ""
  | .dct _ _ => "dict"
def isiT (a b : String) : Option Bool :=
  if (a == "NoneType" || a == "bool" || a == "int" || a == "str" || a == "list" || a == "tuple" || a == "dict") && (b == "bool" || b == "int" || b == "str" || b == "list" || b == "tuple" || b == "dict") then some (a == b || a == "bool" && b == "int") else none
theorem isiT_kit {a b : String} {r : Bool} (h : isiT a b = some r) : kitB a b = some r := by
  unfold isiT at h
  split at h
  · rename_i c
    have e := Option.some.inj h
    subst e
    simp only [Bool.and_eq_true, Bool.or_eq_true, beq_iff_eq] at c
    obtain ⟨ca, cb⟩ := c
    rcases ca with (((((ca | ca) | ca) | ca) | ca) | ca) | ca <;> rcases cb with ((((cb | cb) | cb) | cb) | cb) | cb <;> subst ca <;> subst cb <;> decide +kernel
  · cases h
def isiD (x y : D) (M : MM) (Q : DK) : Prop := match y with
  | .ty b => match isiT (tyName M x) b with
    | some r => Q (.bl r) M
    | none => False
  | _ => False
theorem sql_ty {H : Hp} {p : Addr} {vs : List V} (h : SqL K H p vs) : TyX K H (.ref p) (.type "list") := by
  rcases h with (h | ⟨o, h⟩) | ⟨o, its, n, h, hc, _⟩
  · exact .base (.lst h)
  · exact .base (.frz h)
  · exact .kList h hc
theorem sqt_ty {H : Hp} {p : Addr} {vs : List V} (h : SqT K H p vs) : TyX K H (.ref p) (.type "tuple") := by
  rcases h with (h | ⟨o, h⟩) | ⟨o, its, n, h, hc, _⟩
  · exact .base (.tup h)
  · exact .fTuple h
  · exact .kTuple h hc
theorem tyx_of {g : G} {H : Hp} {M : MM} {x : D} {v : V} {b : String} {r0 : Bool} (r : RelM K g H M) (rx : RelD K g x v) (e : isiT (tyName M x) b = some r0) : TyX K H v (.type (tyName M x)) := by
  cases rx with
  | non => exact .base .non
  | bl b => exact .base (.bl b)
  | int b => exact .base (.int b)
  | str b => exact .base (.str b)
  | lst h1 _ => exact sql_ty (.inl (same_rd r.ex h1))
  | tup h1 _ => exact sqt_ty (same_t r.ex h1)
  | loc h1 =>
    rename_i n p
    unfold tyName at e ⊢
    simp only at e ⊢
    split at e
    · rename_i xs q
      obtain ⟨_, vs, hv, rl⟩ := r.ob n p _ h1 q
      exact .base (.lst hv)
    · rename_i xs q
      obtain ⟨_, vs, hv, rl⟩ := r.ob n p _ h1 q
      exact .base (.dK hv)
    · simp [isiT] at e
  | ty _ => simp [isiT, tyName] at e
  | scr h1 _ => exact sql_ty (r.ex.seq h1)
  | exn _ => simp [isiT, tyName] at e
  | dct h1 _ _ =>
    rcases same_rd r.ex h1 with h | ⟨o, h⟩
    · exact .base (.dK h)
    · exact .fDict h
theorem lcIsi : LC K (rIsi K) (a2 isiD) := lc_a2 fun g H M x y v w r rx ry Q q R k => by
  cases ry with
  | ty b =>
    have q' : (match isiT (tyName M x) b with | some r => Q (.bl r) M | none => False) := q
    split at q'
    · rename_i r0 e
      exact ⟨v, .ty b, _, _, r0, rfl, .ty b, tyx_of r rx e, kit_ty (isiT_kit e), k g H M _ _ (Gx.refl g H) r (.bl _) q'⟩
    · exact q'.elim
  | _ => exact q.elim
end
end AX

namespace AX
open PySem L2 PyProof.Rows
section
variable {X : CB} {K : KB} {a b e o : Expr} {es : List Expr} {ua ub ue uo : DE} {pos p2 : Pos}
theorem xix (hu : X.X.A.units + 64 < cLine) (ha : XE X a ua) (hb : XE X b ub) (hs : PlainIx b := by intro _ _; rfl) : XE X (.Subscript a b pos) (dOp dIx ua ub) := by
  obtain ⟨ta, pa, la⟩ := ha.ex
  obtain ⟨tb, pb, lb⟩ := hb.ex
  exact ⟨_, pe_ix (oIx hu) pa pb hs, le_op lrIx la lb⟩
/-! ### slices -/
abbrev DO := DEnv → MM → (Option Int → MM → Prop) → Prop
def LO (K : KB) (t : TO) (u : DO) : Prop := ∀ g H σ ds M, RelM K g H M → RelS K g σ ds → ∀ Q, u ds M Q → ∀ R : Option Int → Hp → Prop, (∀ g' H' M' o, Gx g H g' H' → RelM K g' H' M' → Q o M' → R o H') → t σ H R
structure XO (X : CB) (e : Option Expr) (u : DO) : Prop where
  ex : ∃ t, PO X e t ∧ LO X.K t u
def dNoP : DO := fun _ M Q => Q none M
def dPart (ue : DE) : DO := fun ds M Q => ue ds M fun x M1 => match x with
  | .int i => Q (some i) M1
  | _ => False
theorem xo_none : XO X none dNoP := ⟨_, po_none, fun g H σ ds M r s Q q R k => k g H M none (Gx.refl g H) r q⟩
theorem xo_some (h : XE X e ue) : XO X (some e) (dPart ue) := by
  obtain ⟨t, p, l⟩ := h.ex
  refine ⟨_, po_some p, fun g H σ ds M r s Q q R k => l g H σ ds M r s _ q _ fun g1 H1 M1 d v x r1 rd q1 => ?_⟩
  cases rd with
  | int i => exact ⟨i, rfl, k g1 H1 M1 _ x r1 q1⟩
  | _ => exact q1.elim
def cutD (xs : List D) (lo hi : Option Int) : List D := (xs.drop (HT.sIx xs.length 0 lo)).take (HT.sIx xs.length xs.length hi - HT.sIx xs.length 0 lo)
theorem cut_rel {g : G} {xs : List D} {vs : List V} (r : RelL K g xs vs) (lo hi : Option Int) : RelL K g (cutD xs lo hi) (cutV vs lo hi) := by
  unfold cutD cutV
  rw [← r.len]
  exact (r.drop _).take _
def slD (x : D) (lo hi : Option Int) (M : MM) (Q : DK) : Prop := match x with
  | .str z => z.length ≤ sizeLine ∧ Q (.str (cutS z lo hi)) M
  | .tup xs => Q (.tup (cutD xs lo hi)) M
  | .scr xs => Q (.lst (cutD xs lo hi)) M
  | x => match seqOf M x with
    | some xs => Q (.lst (cutD xs lo hi)) M
    | none => False
def rSlD (K : PySem.W.Frag) : V → Option Int → Option Int → Hp → VK → Prop := fun x lo hi H Q => rSlL K x lo hi H Q ∨ rSlA K x lo hi H Q ∨ rSlS x lo hi H Q
theorem sl_any : SlR X (rSlD X.K) := SlR.or sl_list (SlR.or sl_tupA sl_str)
theorem slD_ok {g : G} {H : Hp} {M : MM} {x : D} {v : V} {lo hi : Option Int} {Q : DK} {R : VK} (r : RelM K g H M) (rx : RelD K g x v) (q : slD x lo hi M Q) (k : PostE K g H Q R) : rSlD K v lo hi H R := by
  unfold slD at q
  split at q
  · cases rx
    exact .inr (.inr ⟨_, rfl, q.1, k g H M _ _ (Gx.refl g H) r (.str _) q.2⟩)
  · cases rx with
    | tup h1 r1 =>
      refine .inr (.inl ⟨_, _, rfl, same_t r.ex h1, fun z => ?_, fun _ p hp => ?_⟩)
      · rw [← r1.len] at z
        have q' := q
        unfold cutD at q'
        rw [z.1, z.2, List.drop_zero, Nat.sub_zero, List.take_length] at q'
        exact k g H M _ _ (Gx.refl g H) r (.tup h1 r1) q'
      · obtain ⟨g2, x2, r2, rd⟩ := newT r (cut_rel r1 lo hi) hp
        exact k g2 _ M _ _ x2 r2 rd q
  · cases rx with
    | scr h1 r1 =>
      refine .inl ⟨_, _, rfl, r.ex.seq h1, fun p hp => ?_⟩
      obtain ⟨g2, x2, r2, rd⟩ := newL r (cut_rel r1 lo hi) hp
      exact k g2 _ M _ _ x2 r2 rd q
  · split at q
    · rename_i xs e
      obtain ⟨p, vs, rfl, hp, rl⟩ := seq_rel r rx e
      refine .inl ⟨_, _, rfl, .inl hp, fun p hp => ?_⟩
      obtain ⟨g2, x2, r2, rd⟩ := newL r (cut_rel rl lo hi) hp
      exact k g2 _ M _ _ x2 r2 rd q
    · exact q.elim
def dSl (ue : DE) (ul uh : DO) : DE := fun ds M Q => ue ds M fun x M1 => ul ds M1 fun l M2 => uh ds M2 fun u M3 => slD x l u M3 Q
theorem xsl {lo hi : Option Expr} {ul uh : DO} (he : XE X e ue) (hl : XO X lo ul) (hh : XO X hi uh) : XE X (.Subscript e (.Slice lo hi none p2) pos) (dSl ue ul uh) := by
  obtain ⟨t, p, l⟩ := he.ex
  obtain ⟨tl, pl, ll⟩ := hl.ex
  obtain ⟨th, ph, lh⟩ := hh.ex
  exact ⟨_, pe_slice sl_any p pl ph, fun g H σ ds M r s Q q R k => l g H σ ds M r s _ q _ fun g1 H1 M1 d v x1 r1 rd q1 => ll g1 H1 σ ds M1 r1 (s.mono x1) _ q1 _ fun g2 H2 M2 ol x2 r2 q2 =>
    lh g2 H2 σ ds M2 r2 (s.mono (x1.trans x2)) _ q2 _ fun g3 H3 M3 oh x3 r3 q3 => slD_ok r3 (rd.mono (x2.trans x3)) q3 (k.on ((x1.trans x2).trans x3))⟩
/-- a slice that is to be changed -/
def slN (x : D) (lo hi : Option Int) (M : MM) (Q : DK) : Prop := match x with
  | .scr xs => Q (.loc M.length) (M ++ [.lst (cutD xs lo hi)])
  | x => match seqOf M x with
    | some xs => Q (.loc M.length) (M ++ [.lst (cutD xs lo hi)])
    | none => False
/-! ### a list times an int -/
def rRepR : R2 := fun x y H Q => ∃ l k xs, x = .ref l ∧ y = .int k ∧ Rd H l (.lst xs) ∧ -(2 ^ 63) ≤ k ∧ k < 2 ^ 63 ∧ xs.length * k.toNat ≤ sizeLine ∧
  ∀ p, H p = none → Q (.ref p) (upd H p (.lst (List.replicate k.toNat xs).flatten))
theorem op_repR : OpR X (binaryOp .Mult) rRepR := by
  intro pins s σ H x y v u Q I rx ry h
  obtain ⟨l, k, xs, rfl, rfl, hH, h1, h2, hz, q⟩ := h
  rcases hH with hH | ⟨o, hH⟩
  · exact op_rep pins s σ H _ _ v u Q I rx ry ⟨l, k, xs, rfl, rfl, hH, h1, h2, hz, q⟩
  · -- a locked one: it is read as it stands
    have ok := I.hok l _ hH
    obtain ⟨oo, z, its, n, r, e⟩ := ok
    cases rx
    obtain ⟨t, rfl⟩ := ry
    have hl := r.length
    have many : its.toArray.size * k.toNat ≤ sizeLine := by rw [List.size_toArray, ← hl]; exact hz
    have c1 : ¬ its.toArray.size * k.toNat > (2 ^ 63 - 1) / 8 := by
      have z : (sizeLine : Nat) ≤ (2 ^ 63 - 1) / 8 := by decide
      omega
    have c2 : ¬ (!Builtin.List.listFitsIndex k) = true := by rw [fitsIndex_both h1 h2]; exact Bool.false_ne_true
    have c3 : ¬ Builtin.List.listTooLong (its.toArray.size * k.toNat) = true := by rw [notLongL many]; exact Bool.false_ne_true
    have flat : ∀ m : Nat, List.foldl (fun x1 x2 => x1 ++ x2) #[] (List.replicate m its.toArray) = (List.replicate m its).flatten.toArray := fun m => by
      have z := foldl_rep its m []
      rw [List.nil_append] at z
      exact z
    have made : List.foldl (fun x1 x2 => x1 ++ x2) #[] (List.replicate (if its.toArray.isEmpty = true then 0 else k.toNat) its.toArray) = (List.replicate k.toNat its).flatten.toArray := by
      rw [flat]
      cases its with
      | nil => simp
      | cons _ _ => rw [if_neg (by simp)]
    refine wpAny_binaryOp_repeat_ref (T := "list") (U := "int") (by decide) ⟨_, e, rfl⟩ (fun s' => typeIs_int s' k t) noFill_list_mul F.fills_int_mul F.slot_int_rmul repeat_list F.slot_int_index.lookup (call_meets F.slot_int_rmul (typeIs_int s k t) F.entry_int_rmul (F.args_int_rmul_2 _ _) (int___rmul___int_list k t l its.toArray n)
        ⟨e, rfl, ⟨_, e, rfl⟩, call_meets F.slot_list_mul ⟨_, e, rfl⟩ F.entry_list_mul (F.args_list_mul_2 _ _) (AutoListH.list___mul___list_int_3 l its.toArray n k t c2 c1 c3) ⟨e, ?_⟩⟩)
    rw [made]
    exact ⟨.ref _, _, I.lnew (t' := s.toks) (r.rep k.toNat) (by rw [PyProof.Rows.lm_len_rep_flat, Nat.mul_comm]; exact hz), rfl, q _ I.fresh⟩
/-- a text, so often -/
def repS (z : Str) (n : Nat) : Str := ⟨(List.replicate n z.cps).foldl (· ++ ·) #[]⟩
theorem repS_cps (z : Str) : ∀ (n : Nat) (acc : Array Nat), ((List.replicate n z.cps).foldl (· ++ ·) acc).toList = acc.toList ++ (List.replicate n z.cps.toList).flatten
  | 0, acc => by simp
  | n + 1, acc => by
    rw [List.replicate_succ, List.foldl_cons, repS_cps z n, Array.toList_append, List.replicate_succ, List.flatten_cons, List.append_assoc]
theorem repS_len (z : Str) (n : Nat) : (repS z n).length = n * z.length := by
  have e := congrArg List.length (repS_cps z n #[])
  rw [Array.length_toList, List.length_append, PyProof.Rows.lm_len_rep_flat] at e
  have e2 : (repS z n).length = ((List.replicate n z.cps).foldl (· ++ ·) #[]).size := rfl
  rw [e2, e, Array.length_toList]
  show 0 + n * z.length = n * z.length
  omega
def rRepStr : R2 := fun x y H Q => ∃ (z : Str) (k : Int), x = .str z ∧ y = .int k ∧ -(2 ^ 63) ≤ k ∧ k < 2 ^ 63 ∧ z.length * k.toNat ≤ sizeLine ∧ Q (.str (repS z k.toNat)) H
theorem op_repS {X : Cx} : OpR X (binaryOp .Mult) rRepStr := by
  intro pins s σ H x y v u Q I rx ry h
  obtain ⟨z, k, rfl, rfl, h1, h2, hz, q⟩ := h
  obtain ⟨t, rfl⟩ := rx
  obtain ⟨t2, rfl⟩ := ry
  rw [sizeLine_eq] at hz
  refine PySem.P.mul_str (by rw [decide_eq_false (by omega), decide_eq_false (by omega)]; rfl) (fun a b => ?_) (fun a b => ?_) ?_
  · have hk : 0 < k := by omega
    have e : (k.toNat : Int) = k := by omega
    have hm : (z.length : Int) * k ≤ 16777216 := by
      rw [← e]
      have w : ((z.length * k.toNat : Nat) : Int) ≤ ((16777216 : Nat) : Int) := Int.ofNat_le.mpr hz
      rw [Int.natCast_mul] at w
      exact w
    have h3 : (z.length : Int) ≤ (2 ^ 63 - 1) / k := (Int.le_ediv_iff_mul_le hk).mpr (by omega)
    omega
  · unfold Builtin.Str.tooLong
    rw [decide_eq_false (by rw [sizeLine_eq]; omega)]
  · by_cases c : k < 1
    · rw [if_pos c]
      have e : k.toNat = 0 := by omega
      rw [e] at q
      exact ⟨by decide, .str Str.empty, H, I.tok _, ⟨_, rfl⟩, q⟩
    · rw [if_neg c]
      by_cases c2 : (k == 1 || z.length == 0) = true
      · rw [if_pos c2]
        have e : repS z k.toNat = z := by
          simp only [Bool.or_eq_true, beq_iff_eq] at c2
          rcases c2 with e | e
          · subst e
            show Str.mk _ = z
            simp
          · have ez : z.cps = #[] := by
              have w : z.cps.size = 0 := e
              exact Array.eq_empty_of_size_eq_zero w
            have r : ∀ n, (List.replicate n (#[] : Array Nat)).foldl (· ++ ·) #[] = #[] := fun n => by
              induction n with
              | zero => rfl
              | succ n ih => rw [List.replicate_succ, List.foldl_cons]; exact ih
            unfold repS
            rw [ez, r]
            cases z
            simp only at ez
            rw [ez]
        rw [e] at q
        exact ⟨.str z, H, I, ⟨_, rfl⟩, q⟩
      · rw [if_neg c2]
        have sz : (repS z k.toNat).length ≤ 16777216 := by
          rw [repS_len, Nat.mul_comm]
          exact hz
        exact ⟨by rw [sizeLine_eq]; exact sz, .str _, H, I.tok _, ⟨_, rfl⟩, q⟩
/-- what may be multiplied: one factor below 2^64, or both together below a million bits -/
def TimesOk (i j : Int) : Prop := ((-(2 ^ 64) < i ∧ i < 2 ^ 64) ∨ (-(2 ^ 64) < j ∧ j < 2 ^ 64)) ∨ i.natAbs.log2 + j.natAbs.log2 < 1000000
def rMulD : R2 := fun x y H Q => (rI CMul (fun i j => .int (i * j)) x y H Q ∨ rI CMulW (fun i j => .int (i * j)) x y H Q) ∨ rRepR x y H Q ∨ rRepStr x y H Q
theorem oMul : OpR X (binaryOp .Mult) rMulD := OpR.or (OpR.or op_mul op_mulW) (OpR.or op_repR op_repS)
def dTimes : D2 := fun x y M Q => match x with
  | .int i => match y with
    | .int j => TimesOk i j ∧ Q (.int (i * j)) M
    | _ => False
  | .str z => match y with
    | .int k => -(2 ^ 63) ≤ k ∧ k < 2 ^ 63 ∧ z.length * k.toNat ≤ sizeLine ∧ Q (.str (repS z k.toNat)) M
    | _ => False
  | x => match y with
    | .int k => match seqOf M x with
      | some xs => -(2 ^ 63) ≤ k ∧ k < 2 ^ 63 ∧ xs.length * k.toNat ≤ sizeLine ∧ Q (.lst (List.replicate k.toNat xs).flatten) M
      | none => False
    | _ => False
theorem lrTimes : LR K rMulD dTimes := fun g H M x y v w r rx ry Q q R k => by
  unfold dTimes at q
  split at q
  · split at q
    · cases rx
      cases ry
      rcases q.1 with h | h
      · exact .inl (.inl ⟨_, _, rfl, rfl, h, k g H M _ _ (Gx.refl g H) r (.int _) q.2⟩)
      · exact .inl (.inr ⟨_, _, rfl, rfl, h, k g H M _ _ (Gx.refl g H) r (.int _) q.2⟩)
    · exact q.elim
  · split at q
    · cases rx
      cases ry
      exact .inr (.inr ⟨_, _, rfl, rfl, q.1, q.2.1, q.2.2.1, k g H M _ _ (Gx.refl g H) r (.str _) q.2.2.2⟩)
    · exact q.elim
  · split at q
    · split at q
      · rename_i xs e
        cases ry
        obtain ⟨p, vs, rfl, hp, rl⟩ := seq_rel r rx e
        refine .inr (.inl ⟨p, _, vs, rfl, rfl, hp, q.1, q.2.1, by rw [← rl.len]; exact q.2.2.1, fun p hp => ?_⟩)
        obtain ⟨g2, x2, r2, rd⟩ := newL r (rl.flat _) hp
        exact k g2 _ M _ _ x2 r2 rd q.2.2.2
      · exact q.elim
    · exact q.elim
/-! ### dicts with written keys -/
def dPairs : List (DE × DE) → DEnv → MM → (List (D × D) → MM → Prop) → Prop
  | [], _, M, Q => Q [] M
  | (uk, uv) :: r, ds, M, Q => uk ds M fun x M1 => uv ds M1 fun y M2 => dPairs r ds M2 fun ps M3 => Q ((x, y) :: ps) M3
def LPs (K : KB) : List (TE × TE) → List (DE × DE) → Prop := Paired fun t u => LE K t.1 u.1 ∧ LE K t.2 u.2
structure XPs (X : CB) (pos : Pos) (keys : List (Option Expr)) (values : List Expr) (us : List (DE × DE)) : Prop where
  ex : ∃ ts, PPs X pos keys values ts ∧ LPs X.K ts us
theorem xps_nil : XPs X pos [] [] [] := ⟨_, pps_nil, .nil⟩
theorem xps_cons {k v : Expr} {ks : List (Option Expr)} {vs : List Expr} {uk uv : DE} {us : List (DE × DE)} (hk : XE X k uk) (hv : XE X v uv) (hr : XPs X pos ks vs us) : XPs X pos (some k :: ks) (v :: vs) ((uk, uv) :: us) := by
  obtain ⟨t1, q1, l1⟩ := hk.ex
  obtain ⟨t2, q2, l2⟩ := hv.ex
  obtain ⟨t3, q3, l3⟩ := hr.ex
  exact ⟨_, pps_cons q1 q2 q3, .cons ⟨l1, l2⟩ l3⟩
theorem lps_ok {σ : L2.St} {ds : DEnv} : ∀ {ts : List (TE × TE)} {us : List (DE × DE)}, LPs K ts us → ∀ g H M, RelM K g H M → RelS K g σ ds → ∀ Q, dPairs us ds M Q → ∀ R : List (V × V) → Hp → Prop,
    (∀ g' H' M' (ps : List (D × D)) (qs : List (V × V)), Gx g H g' H' → RelM K g' H' M' → Paired (fun (d : D × D) (v : V × V) => RelD K g' d.1 v.1 ∧ RelD K g' d.2 v.2) ps qs → Q ps M' → R qs H') → tPairs ts σ H R := by
  intro ts us h
  induction h with
  | nil => exact fun g H M r s Q q R k => k g H M [] [] (Gx.refl g H) r .nil q
  | cons h t ih =>
    exact fun g H M r s Q q R k => h.1 g H σ ds M r s _ q _ fun g1 H1 M1 x v x1 r1 rx q1 => h.2 g1 H1 σ ds M1 r1 (s.mono x1) _ q1 _ fun g2 H2 M2 y w x2 r2 ry q2 =>
      ih g2 H2 M2 r2 (s.mono (x1.trans x2)) _ q2 _ fun g3 H3 M3 ps qs x3 r3 rp q3 => k g3 H3 M3 _ _ ((x1.trans x2).trans x3) r3 (.cons ⟨rx.mono (x2.trans x3), ry.mono x3⟩ rp) q3
def keysOf : List (D × D) → Option (List (Key × D))
  | [] => some []
  | (k, v) :: r => match dkey k, keysOf r with
    | some k, some r => some ((k, v) :: r)
    | _, _ => none
def dmerge (kvs more : List (Key × D)) : List (Key × D) := more.foldl (fun acc kv => dput acc kv.1 kv.2) kvs
theorem keysOf_rel {g : G} : ∀ {ps : List (D × D)} {qs : List (V × V)} {kvs : List (Key × D)}, Paired (fun (d : D × D) (v : V × V) => RelD K g d.1 v.1 ∧ RelD K g d.2 v.2) ps qs → keysOf ps = some kvs → ∃ kw : List (Key × V), qs = kw.map (fun kv => (kV kv.1, kv.2)) ∧ RelP K g kvs kw
  | _, _, _, .nil, h => by
    have e := Option.some.inj h
    subst e
    exact ⟨[], rfl, .nil⟩
  | (k, v) :: ps, (w, z) :: qs, kvs, .cons h t, e => by
    unfold keysOf at e
    split at e
    · rename_i kk r e1 e2
      have e3 := Option.some.inj e
      subst e3
      obtain ⟨kw, hq, hr⟩ := keysOf_rel t e2
      refine ⟨(kk, z) :: kw, ?_, .cons h.2 hr⟩
      have e4 : w = kV kk := dkey_rel h.1 e1
      rw [List.map_cons, ← hq, ← e4]
    · cases e
theorem RelP.merge {g : G} : ∀ {more : List (Key × D)} {ms : List (Key × V)} {kvs : List (Key × D)} {vs : List (Key × V)}, RelP K g more ms → RelP K g kvs vs → RelP K g (dmerge kvs more) (mergeK vs ms)
  | _, _, _, _, .nil, r => r
  | _, _, kvs, vs, .cons (k := k) (d := d) (v := v) (ds := ds) (vs := ws) h t, r => by
    show RelP K g (dmerge (dput kvs k d) ds) (mergeK (putK vs k v) ws)
    exact RelP.merge t (RelP.put h r)
def dDisp (us : List (DE × DE)) : DE := fun ds M Q => dPairs us ds M fun ps M1 => match keysOf ps with
  | some kvs => kvs.length ≤ 15 ∧ Q (.loc M1.length) (M1 ++ [.dic (dmerge [] kvs)])
  | none => False
theorem pushD {g : G} {H : Hp} {M : MM} {kvs : List (Key × D)} {kw : List (Key × V)} {p : Addr} (r : RelM K g H M) (h : RelP K g kvs kw) (hp : H p = none) :
    ∃ g', Gx g H g' (upd H p (.dK kw)) ∧ RelM K g' (upd H p (.dK kw)) (M ++ [.dic kvs]) ∧ RelD K g' (.loc M.length) (.ref p) := by
  obtain ⟨x, r', e⟩ := r.push (o := .dK kw) (mo := .dic kvs) hp fun g' x f => ⟨f, kw, upd_same, h.mono x⟩
  exact ⟨_, x, r', .loc e⟩
theorem xdisp {keys : List (Option Expr)} {values : List Expr} {us : List (DE × DE)} (h : XPs X pos keys values us) (hall : keys.all (·.isSome) = true := by rfl) (hl : keys.length = values.length := by rfl) (h0 : keys ≠ [] := by simp)
    (h15 : keys.length ≤ 15 := by decide) : XE X (.Dict keys values pos) (dDisp us) := by
  obtain ⟨ts, ps, lp⟩ := h.ex
  refine ⟨_, pe_disp ps hall hl h0 h15, fun g H σ ds M r s Q q R k => ?_⟩
  intro p hp
  have n0 : p ∉ g.as := fun h => by
    obtain ⟨o, e⟩ := r.tk p h
    rw [hp] at e
    cases e
  have f0 : g.F p = none := r.ex.free hp
  have x0 : Gx g H g (upd H p (.dK [])) := (Gx.refl g H).aside hp
  refine lps_ok lp g _ M (r.aside (r.free0 hp) n0 f0) s _ q _ fun g1 H1 M1 qs vs x1 r1 rp q1 => ?_
  have h1 : H1 p = some (.dK []) := x1.keep p _ n0 upd_same
  have n1 : p ∉ g1.as := fun h => by
    rcases x1.new p h with e | e
    · exact n0 e
    · rw [upd_same] at e
      cases e
  have f1 : g1.F p = none := by
    rcases x1.newF p f0 with e | e | e
    · exact e
    · exact absurd e n0
    · rw [upd_same] at e
      cases e
  split at q1
  · rename_i kvs ek
    obtain ⟨kw, eq, rk⟩ := keysOf_rel rp ek
    refine ⟨h1, kw, eq, by rw [← rk.len]; exact q1.1, ?_⟩
    -- p comes into the store
    have xg : Gr g1 ⟨g1.F, g1.as ++ [p]⟩ := ⟨Same.refl _, [p], rfl⟩
    have rm : RelM X.K ⟨g1.F, g1.as ++ [p]⟩ (upd H1 p (.dK (mergeK [] kw))) (M1 ++ [.dic (dmerge [] kvs)]) := by
      have ra := r1.aside (o := .dK (mergeK [] kw)) (r.free0 hp) n1 f1
      refine ⟨ra.ex, ?_, ?_, fun a ha => ?_, fun n a mo e1 e2 => ?_, ra.up.gr.trans xg, ra.up.keep, fun a ha => ?_, ra.up.newF⟩
      · show (g1.as ++ [p]).length = _
        rw [List.length_append, List.length_append, r1.len]
        rfl
      · show (g1.as ++ [p]).Nodup
        rw [List.nodup_append]
        refine ⟨r1.nd, by simp, fun a ha b hb e => ?_⟩
        have e' : b = p := by simpa using hb
        exact n1 (by rw [← e', ← e]; exact ha)
      · rcases List.mem_append.mp ha with z | z
        · exact ra.tk a z
        · have e : a = p := by simpa using z
          subst e
          exact ⟨_, upd_same⟩
      · have e1' : (g1.as ++ [p])[n]? = some a := e1
        by_cases hn : n < g1.as.length
        · rw [List.getElem?_append_left hn] at e1'
          rw [List.getElem?_append_left (by rw [← r1.len]; exact hn)] at e2
          exact (ra.ob n a mo e1' e2).mono xg id fun _ q => q
        · have hn2 : n < (g1.as ++ [p]).length := (List.getElem?_eq_some_iff.mp e1').1
          rw [List.length_append, List.length_singleton] at hn2
          have en : n = g1.as.length := by omega
          subst en
          rw [List.getElem?_append_right (Nat.le_refl _), Nat.sub_self] at e1'
          rw [r1.len, List.getElem?_append_right (Nat.le_refl _), Nat.sub_self] at e2
          have i1 : p = a := Option.some.inj e1'
          have i2 : MO.dic (dmerge [] kvs) = mo := Option.some.inj e2
          subst i1
          subst i2
          exact ⟨f1, _, upd_same, (RelP.merge rk .nil).mono xg⟩
      · rcases List.mem_append.mp ha with z | z
        · exact ra.up.new a z
        · have e : a = p := by simpa using z
          subst e
          exact .inr (r.free0 hp)
    have x2 : Gx g H ⟨g1.F, g1.as ++ [p]⟩ (upd H1 p (.dK (mergeK [] kw))) := by
      have xa := (x0.trans x1).aside (o := .dK (mergeK [] kw)) hp
      refine ⟨xa.gr.trans xg, xa.keep, fun a ha => ?_, xa.newF⟩
      rcases List.mem_append.mp ha with z | z
      · exact xa.new a z
      · have e : a = p := by simpa using z
        subst e
        exact .inr hp
    exact k _ _ _ _ _ x2 rm (.loc (by show (g1.as ++ [p])[M1.length]? = some p; rw [← r1.len, List.getElem?_append_right (Nat.le_refl _), Nat.sub_self]; rfl)) q1.2
  · exact q1.elim
theorem xdnew : XE X (.Dict [] [] pos) (fun _ M Q => Q (.loc M.length) (M ++ [.dic []])) := ⟨_, pe_dnewK, fun g H σ ds M r s Q q R k p hp => by
  obtain ⟨g2, x2, r2, rd⟩ := pushD r (kw := []) .nil hp
  exact k g2 _ _ _ _ x2 r2 rd q⟩
/-! ### o[i] = v -/
def dSetI (x i v : D) (M : MM) (Q : MM → Prop) : Prop := match x with
  | .loc n => match M[n]? with
    | some (.lst xs) => match i with
      | .int k => match ixN xs.length k with
        | some j => Q (M.set n (.lst (xs.set j v)))
        | none => False
      | _ => False
    | some (.dic kvs) => match dkey i with
      | some k => kvs.length < sizeLine ∧ Q (M.set n (.dic (dput kvs k v)))
      | none => False
    | _ => False
  | _ => False
theorem PSet.or {X : CB} {t t' : TSet} (h : PSet X t) (h' : PSet X t') : PSet X (fun o i v H Q => t o i v H Q ∨ t' o i v H Q) := by
  intro pins s σ H o i v ov iv u Q I r1 r2 r3 q
  rcases q with q | q
  · exact h pins s σ H o i v ov iv u Q I r1 r2 r3 q
  · exact h' pins s σ H o i v ov iv u Q I r1 r2 r3 q
def dgSub (uo ui : DE) : DG := fun v ds M Q => uo ds M fun o M1 => ui ds M1 fun i M2 => dSetI o i v M2 fun M3 => Q ds M3
theorem g_sub {i : Expr} {ui : DE} (hu : X.X.A.units + 64 < cLine) (ho : XE X o uo) (hi : XE X i ui)
    (ha : ∀ v, assign (.Subscript o i pos) X.env v = (do
      let ov ← holding [v] (eval o X.env)
      let iv ← holding [v, ov] (eval i X.env)
      standAt pos
      holding [v, ov, iv] (setItem ov iv v)
      release [v, ov, iv] []) := by intro _; rfl) : XG X (.Subscript o i pos) (dgSub uo ui) := by
  obtain ⟨t1, q1, l1⟩ := ho.ex
  obtain ⟨t2, q2, l2⟩ := hi.ex
  refine ⟨_, pg_sub q1 q2 (PSet.or set_list (set_dict (Nat.lt_of_le_of_lt (Nat.add_le_add_left (by decide : 1 ≤ 64) _) hu))) ha, fun g H σ ds M d v r s rd Q q R k => ?_⟩
  refine l1 g H σ ds M r s _ q _ fun g1 H1 M1 x w x1 r1 rx q1 => l2 g1 H1 σ ds M1 r1 (s.mono x1) _ q1 _ fun g2 H2 M2 y z x2 r2 ry q2 => ?_
  unfold dSetI at q2
  split at q2
  · rename_i n
    have rx2 := rx.mono x2.gr
    have rd2 := rd.mono (x1.trans x2).gr
    cases rx2 with
    | loc h1 =>
      rename_i p
      split at q2
      · rename_i xs e
        obtain ⟨f, vs, hv, rl⟩ := r2.ob n p _ h1 e
        split at q2
        · split at q2
          · rename_i kk _ j ej
            cases ry
            obtain ⟨xx, rr⟩ := r2.put (o := .lst (vs.set j v)) (mo := .lst (xs.set j d)) h1 f ⟨f, _, upd_same, rl.set rd2 j⟩
            exact .inl ⟨p, vs, kk, j, rfl, rfl, hv, by rw [← rl.len]; exact ej, k g2 _ σ ds _ ((x1.trans x2).trans xx) rr (s.mono (x1.trans x2)) q2⟩
          · exact q2.elim
        · exact q2.elim
      · rename_i kvs e
        obtain ⟨f, vs, hv, rl⟩ := r2.ob n p _ h1 e
        split at q2
        · rename_i kk ek
          have ez := dkey_rel ry ek
          subst ez
          obtain ⟨xx, rr⟩ := r2.put (o := .dK (putK vs kk v)) (mo := .dic (dput kvs kk d)) h1 f ⟨f, _, upd_same, rl.put rd2⟩
          exact .inr ⟨p, _, rfl, .k hv (by rw [← rl.len]; exact q2.1), k g2 _ σ ds _ ((x1.trans x2).trans xx) rr (s.mono (x1.trans x2)) q2.2⟩
        · exact q2.elim
      · exact q2.elim
  · exact q2.elim
theorem s_setI {i v : Expr} {ui uv : DE} {pos' : Pos} (hu : X.X.A.units + 64 < cLine) (ho : XE X o uo) (hi : XE X i ui) (hv : XE X v uv) (hs : swapsWithSole [.Subscript o i pos'] v pos.line X.env = pure false := by rfl) (hw : swappedStores [.Subscript o i pos'] v X.env = pure none := by rfl)
    (h1 : (assignEach [.Subscript o i pos'] X.env).map (·.2) = [assign (.Subscript o i pos') X.env] := by rfl) (ha : ∀ v, assign (.Subscript o i pos') X.env v = (do
      let ov ← holding [v] (eval o X.env)
      let iv ← holding [v, ov] (eval i X.env)
      standAt pos'
      holding [v, ov, iv] (setItem ov iv v)
      release [v, ov, iv] []) := by intro _; rfl) : XS X (.Assign [.Subscript o i pos'] v pos) (dAsg uv (dgSub uo ui)) := s_asg hv (g_sub hu ho hi ha) hs hw h1
/-! ### methods of lists -/
def tyD (T : String) (x : D) (M : MM) : Prop := match x with
  | .str _ => T = "str"
  | .lst _ => T = "list"
  | .loc n => match M[n]? with
    | some (.lst _) => T = "list"
    | some (.dic _) => T = "dict"
    | _ => False
  | _ => False
theorem tyD_rel {g : G} {H : Hp} {M : MM} {T : String} {x : D} {v : V} (r : RelM K g H M) (rx : RelD K g x v) (h : tyD T x M) : tyV K T v H := by
  cases rx with
  | str z => exact h
  | lst h1 _ => exact .inl ⟨h, _, .inl (same_rd r.ex h1)⟩
  | loc h1 =>
    rename_i n p
    unfold tyD at h
    simp only at h
    split at h
    · rename_i xs e
      obtain ⟨_, vs, hv, rl⟩ := r.ob n p _ h1 e
      exact .inl ⟨h, _, .inl (.inl hv)⟩
    · rename_i xs e
      obtain ⟨_, vs, hv, rl⟩ := r.ob n p _ h1 e
      exact .inr (.inr (.inl ⟨h, .inl ⟨_, hv⟩⟩))
    · exact h.elim
  | _ => exact h.elim
abbrev DMt := D → List D → MM → DK → Prop
def LMt (K : KB) (r : V → List V → Hp → VK → Prop) (u : DMt) : Prop := ∀ g H M x v xs vs, RelM K g H M → RelD K g x v → RelL K g xs vs → ∀ Q, u x xs M Q → ∀ R, PostE K g H Q R → r v vs H R
def dBM (T : String) (u : DMt) (uo : DE) (ua : DA) : DE := fun ds M Q => uo ds M fun x M1 => tyD T x M1 ∧ ua ds M1 fun xs M2 => u x xs M2 Q
variable {ua' : DA} {name : Str} {apos cpos : Pos} {T mid : String} {r : V → List V → Hp → VK → Prop} {u : DMt}
theorem xbm (pa : PlainAttrs T) (slot : Slot T name mid) (hty : typeOf (.builtin mid) = pure (.type "method_descriptor")) (hm : MtR X mid r) (hl : LMt X.K r u) (ho : XE X o uo) (ha : XA X (e :: es) ua')
    (hbase : attributeBase o name X.env (eval o X.env) = eval o X.env := by rfl)
    (hfew : ((backTo cpos (starEach (e :: es) X.env)).all (fun x => !x.1) && (backToKw cpos (keywordEach [] X.env)).all (fun x => x.1.isSome)
      && decide ((e :: es).length + ([] : List Keyword).length + (if ([] : List Keyword).isEmpty then 0 else 1) < 30)) = true := by rfl)
    (hline : (apos.endLine == cpos.line) = true := by rfl) (hs : starEach (e :: es) X.env = (false, eval e X.env) :: starEach es X.env := by rfl) (hplain : (backTo cpos (starEach es X.env)).any (·.1) = false := by rfl) :
    XE X (.Call (.Attribute o name apos) (e :: es) [] cpos) (dBM T u uo ua') := by
  obtain ⟨t1, q1, l1⟩ := ho.ex
  obtain ⟨t2, q2, l2⟩ := ha.ex
  exact ⟨_, pe_bm pa slot hty hm q1 q2 hbase hfew hline hs hplain, fun g H σ ds M rm s Q q R k => l1 g H σ ds M rm s _ q _ fun g1 H1 M1 x v x1 r1 rx q1 => ⟨tyD_rel r1 rx q1.1, l2 g1 H1 σ ds M1 r1 (s.mono x1) _ q1.2 _ fun g2 H2 M2 xs vs x2 r2 rl q2 =>
    hl g2 H2 M2 x v xs vs r2 (rx.mono x2) rl Q q2 R (k.on (x1.trans x2))⟩⟩
theorem xbm0 (pa : PlainAttrs T) (slot : Slot T name mid) (hty : typeOf (.builtin mid) = pure (.type "method_descriptor")) (hm : MtR X mid r) (hl : LMt X.K r u) (ho : XE X o uo)
    (hbase : attributeBase o name X.env (eval o X.env) = eval o X.env := by rfl) (hline : (apos.endLine == cpos.line) = true := by rfl) : XE X (.Call (.Attribute o name apos) [] [] cpos) (dBM T u uo dNil) := by
  obtain ⟨t1, q1, l1⟩ := ho.ex
  exact ⟨_, pe_bm0 pa slot hty hm q1 hbase hline, fun g H σ ds M rm s Q q R k => l1 g H σ ds M rm s _ q _ fun g1 H1 M1 x v x1 r1 rx q1 => ⟨tyD_rel r1 rx q1.1, hl g1 H1 M1 x v [] [] r1 rx .nil Q q1.2 R (k.on x1)⟩⟩
def appD : DMt := fun x vs M Q => match x with
  | .loc n => match M[n]? with
    | some (.lst xs) => match vs with
      | [y] => xs.length < sizeLine ∧ Q .non (M.set n (.lst (xs ++ [y])))
      | _ => False
    | _ => False
  | _ => False
theorem lmApp : LMt K rAppend appD := fun g H M x v xs vs r rx rl Q q R k => by
  cases rx with
  | loc h1 =>
    rename_i n p
    unfold appD at q
    simp only at q
    split at q
    · rename_i ys e
      obtain ⟨f, ws, hv, rw'⟩ := r.ob n p _ h1 e
      split at q
      · rename_i y
        cases rl with
        | cons h2 h3 =>
          cases h3
          obtain ⟨xx, rr⟩ := r.put (o := .lst (ws ++ [_])) (mo := .lst (ys ++ [y])) h1 f ⟨f, _, upd_same, rw'.app (.cons h2 .nil)⟩
          exact ⟨p, ws, _, rfl, rfl, hv, by rw [← rw'.len]; exact q.1, k g _ _ _ _ xx rr .non q.2⟩
      · exact q.elim
    · exact q.elim
  | _ => exact q.elim
theorem xapp (ho : XE X o uo) (ha : XA X [e] ua')
    (hbase : attributeBase o "append" X.env (eval o X.env) = eval o X.env := by rfl)
    (hfew : ((backTo cpos (starEach [e] X.env)).all (fun x => !x.1) && (backToKw cpos (keywordEach [] X.env)).all (fun x => x.1.isSome)
      && decide (([e] : List Expr).length + ([] : List Keyword).length + (if ([] : List Keyword).isEmpty then 0 else 1) < 30)) = true := by rfl)
    (hline : (apos.endLine == cpos.line) = true := by rfl) (hs : starEach [e] X.env = (false, eval e X.env) :: starEach [] X.env := by rfl) (hplain : (backTo cpos (starEach [] X.env)).any (·.1) = false := by rfl) :
    XE X (.Call (.Attribute o "append" apos) [e] [] cpos) (dBM "list" appD uo ua') :=
  xbm PySem.F.plainAttrs_list PySem.F.slot_list_append PySem.F.type_list_append mt_append lmApp ho ha hbase hfew hline hs hplain
/-! ### the signs of a text -/
def dStrI (ue : DE) : DI := fun ds M R => ue ds M fun x M1 => match x with
  | .str z => R (z.cps.toList.map fun c => .str ⟨#[c]⟩) noChk M1
  | _ => False
theorem i_str {tg iter : Expr} (h : XE X iter ue) : XI X tg iter (dStrI ue) := by
  obtain ⟨t, p, l⟩ := h.ex
  refine ⟨_, pi_str p, fun g H σ ds M r s R q R' k => l g H σ ds M r s _ q _ fun g1 H1 M1 d v x r1 rd q1 => ?_⟩
  cases rd with
  | str z =>
    refine ⟨z, rfl, k g1 H1 M1 _ noChk _ x r1 ⟨fun g2 H2 M2 i x rm _ hi => ?_, fun g2 H2 M2 i d x rm _ e => ?_⟩ q1⟩
    · rw [List.length_map, Array.length_toList] at hi
      exact hi
    · have hl : i < z.cps.size := by
        have z1 := (List.getElem?_eq_some_iff.mp e).1
        rw [List.length_map, Array.length_toList] at z1
        exact z1
      refine ⟨hl, fun y H' hy => ?_⟩
      obtain ⟨rfl, c, hc, rfl⟩ := hy
      rw [List.getElem?_map, Array.getElem?_toList, hc] at e
      have e' : D.str ⟨#[c]⟩ = d := Option.some.inj e
      subst e'
      exact ⟨g2, Gx.refl g2 H', rm, .str _⟩
  | _ => exact q1.elim
/-! ### truth of lists, texts, ints -/
def truD (M : MM) : D → Option Bool
  | .non => some false
  | .bl b => some b
  | .int i => some (i != 0)
  | .tup xs => some (!xs.isEmpty)
  | .lst xs => some (!xs.isEmpty)
  | .loc n => match M[n]? with
    | some (.lst xs) => some (!xs.isEmpty)
    | some (.dic xs) => some (!xs.isEmpty)
    | _ => none
  | _ => none
def dTru (ue : DE) : DT := fun ds M Q => ue ds M fun x M1 => match truD M1 x with
  | some b => Q b M1
  | none => False
theorem isE {α β : Type} {xs : List α} {ys : List β} (h : xs.length = ys.length) : xs.isEmpty = ys.isEmpty := by
  cases xs <;> cases ys <;> first | rfl | (simp at h)
theorem ttru (h : XE X e ue) (he : ∀ whole, isTrue e X.env whole = (do let v ← whole; standAt e.pos; holding [v] (truthy v)) := by intro _; rfl) : XT X e (dTru ue) := by
  obtain ⟨t, p, l⟩ := h.ex
  refine ⟨_, pt_truth p he, fun g H σ ds M r s Q q R k => l g H σ ds M r s _ q _ fun g1 H1 M1 x v x1 r1 rx q1 => ?_⟩
  dsimp only at q1
  split at q1
  · rename_i b eb
    refine ⟨b, ?_, k g1 H1 M1 b x1 r1 q1⟩
    cases rx with
    | non => exact (Option.some.inj eb).symm
    | bl _ => exact (Option.some.inj eb).symm
    | int _ => exact (Option.some.inj eb).symm
    | tup h1 r2 => exact .inr (.inl ⟨_, same_t r1.ex h1, by rw [← isE r2.len]; exact (Option.some.inj eb).symm⟩)
    | lst h1 r2 => exact .inl ⟨_, .inl (same_rd r1.ex h1), by rw [← isE r2.len]; exact (Option.some.inj eb).symm⟩
    | loc h1 =>
      rename_i n p
      unfold truD at eb
      simp only at eb
      split at eb
      · rename_i xs e
        obtain ⟨_, vs, hv, rl⟩ := r1.ob n p _ h1 e
        exact .inl ⟨_, .inl (.inl hv), by rw [← isE rl.len]; exact (Option.some.inj eb).symm⟩
      · rename_i xs e
        obtain ⟨_, vs, hv, rl⟩ := r1.ob n p _ h1 e
        exact .inr (.inr ⟨_, hv, by rw [← isE rl.len]; exact (Option.some.inj eb).symm⟩)
      · cases eb
    | _ => cases eb
  · exact q1.elim
end
end AX

namespace AX
open PySem L2 PyProof.Rows
abbrev sumL : DL := a1 fun x M Q => onInts x M fun ns => Q (.int ns.sum) M
abbrev maxL : DL := a1 fun x M Q => onInts x M fun ns => 0 < ns.length ∧ ∀ m, m ∈ ns → (∀ y, y ∈ ns → y ≤ m) → Q (.int m) M
abbrev minL : DL := a1 fun x M Q => onInts x M fun ns => 0 < ns.length ∧ ∀ m, m ∈ ns → (∀ y, y ∈ ns → m ≤ y) → Q (.int m) M
abbrev anyL : DL := a1 fun x M Q => onBls x M fun bs => Q (.bl (bs.any fun b => b)) M
abbrev allL : DL := a1 fun x M Q => onBls x M fun bs => Q (.bl (bs.all fun b => b)) M
abbrev sortedL : DL := a1 fun x M Q => onInts x M fun ns => ∀ ns' : List Int, ns'.Perm ns → ns'.Pairwise (· ≤ ·) → Q (.lst (ns'.map D.int)) M
/-- sorted(set(xs)), xs ints -/
def dSset (ue : DE) : DE := fun ds M Q => ue ds M fun x M1 => onInts x M1 fun ns => ns.length < 64 ∧ ∀ ns' : List Int, ns'.Pairwise (· < ·) → (∀ k, k ∈ ns' ↔ k ∈ ns) → Q (.lst (ns'.map D.int)) M1
/-! look-ups in written dicts -/
theorem dlook_hit {κ β : Type} [DecidableEq κ] {k : κ} {v : β} {r : List (κ × β)} : dlook ((k, v) :: r) k = some v := by simp [dlook]
theorem dlook_miss {κ β : Type} [DecidableEq κ] {j k : κ} {v : β} {r : List (κ × β)} (h : ¬ j = k) : dlook ((j, v) :: r) k = dlook r k := by simp [dlook, h]
theorem inr_ne {x y : Str} (h : ¬ x = y) : ¬ ((Sum.inr x : Key) = .inr y) := fun e => h (Sum.inr.inj e)
section
variable {X : CB} {K : KB}
/-- a name of the module that holds an int -/
theorem xgi {x : Str} {i : Int} {pos : Pos} (hg : Gl X x) (hm : ∃ t, X.mg x = some (.int i t)) (hd : (x == ("__debug__" : Str)) = false := by decide) : XE X (.Name x pos) (dC (.int i)) := by
  obtain ⟨t, hm⟩ := hm
  exact ⟨_, pe_glob (v := .int i) hg hm ⟨t, rfl⟩ hd, le_c fun _ => .int i⟩
/-- x += y: ints, texts -/
def dIAdd : D2 := fun x y M Q => match x with
  | .int i => match y with
    | .int j => Q (.int (i + j)) M
    | _ => False
  | .str a => match y with
    | .str b => a.length + b.length ≤ sizeLine ∧ Q (.str (a ++ b)) M
    | _ => False
  | _ => False
theorem iAdd : OpR X (inplaceOp .Add) (fun x y H Q => rI0 (fun i j => .int (i + j)) x y H Q ∨ ∃ i j, x = .str i ∧ y = .str j ∧ i.length + j.length ≤ sizeLine ∧ Q (.str (i ++ j)) H) := OpR.or iop_add iop_add_str
theorem lrIAdd : LR K (fun x y H Q => rI0 (fun i j => .int (i + j)) x y H Q ∨ ∃ i j, x = .str i ∧ y = .str j ∧ i.length + j.length ≤ sizeLine ∧ Q (.str (i ++ j)) H) dIAdd := fun g H M x y v w r rx ry Q q R k => by
  cases rx with
  | int i => cases ry with
    | int j => exact .inl ⟨i, j, rfl, rfl, k g H M _ _ (Gx.refl g H) r (.int _) q⟩
    | _ => exact q.elim
  | str i => cases ry with
    | str j => exact .inr ⟨i, j, rfl, rfl, q.1, k g H M _ _ (Gx.refl g H) r (.str _) q.2⟩
    | _ => exact q.elim
  | _ => exact q.elim
end
end AX

namespace AX
open PySem L2
/-! ### loops and comprehensions by what holds -/
section
variable {chk : MM → Prop} {gt : DG} {b : DS} {DD : DEnds} {α : Type}
/-- I of the part taken; K: what is wanted behind a turn -/
theorem loop_inv (f : α → D) (ns : List α) (I : List α → DEnv → MM → Prop) {ds : DEnv} {M : MM} (h0 : I [] ds M)
    (hs : ∀ pre a post, ns = pre ++ a :: post → ∀ ds M, I pre ds M → ∀ K : DEnv → MM → Prop, (∀ ds' M', I (pre ++ [a]) ds' M' → K ds' M') → chk M ∧ gt (f a) ds M fun ds1 M1 => b { DD with nx := K, ct := K, bk := DD.nx } ds1 M1)
    (hd : ∀ ds M, I ns ds M → chk M ∧ DD.nx ds M) : dLoop chk gt b DD (ns.map f) ds M := by
  suffices h : ∀ post pre, ns = pre ++ post → ∀ ds M, I pre ds M → dLoop chk gt b DD (post.map f) ds M from h ns [] rfl ds M h0
  intro post
  induction post with
  | nil =>
    intro pre e ds M hi
    rw [List.append_nil] at e
    subst e
    exact hd ds M hi
  | cons a post ih =>
    intro pre e ds M hi
    exact hs pre a post e ds M hi _ fun ds' M' h' => ih (pre ++ [a]) (by rw [e, List.append_assoc]; rfl) ds' M' h'
theorem rng_inv (lo : Int) (n : Nat) (I : Nat → DEnv → MM → Prop) {ds : DEnv} {M : MM} (h0 : I 0 ds M)
    (hs : ∀ i, i < n → ∀ ds M, I i ds M → ∀ K : DEnv → MM → Prop, (∀ ds' M', I (i + 1) ds' M' → K ds' M') → chk M ∧ gt (.int (lo + (i : Int))) ds M fun ds1 M1 => b { DD with nx := K, ct := K, bk := DD.nx } ds1 M1)
    (hd : ∀ ds M, I n ds M → chk M ∧ DD.nx ds M) : dLoop chk gt b DD (rngD lo n) ds M := by
  unfold rngD
  refine loop_inv _ _ (fun pre ds M => I pre.length ds M) h0 (fun pre a post e ds M hi K hK => ?_) fun ds M hi => hd ds M (by rw [List.length_range] at hi; exact hi)
  have ha : a = pre.length := by
    have h1 : (List.range n)[pre.length]? = some a := by rw [e, List.getElem?_append_right (Nat.le_refl _), Nat.sub_self]; rfl
    have h2 : pre.length < n := by
      have z := (List.getElem?_eq_some_iff.mp h1).1
      rw [List.length_range] at z
      exact z
    rw [List.getElem?_range h2] at h1
    exact (Option.some.inj h1).symm
  have hl : pre.length < n := by
    have z : (List.range n).length = (pre ++ a :: post).length := by rw [e]
    rw [List.length_range, List.length_append, List.length_cons] at z
    omega
  subst ha
  exact hs pre.length hl ds M hi K fun ds' M' h' => hK ds' M' (by rw [List.length_append]; exact h')
theorem rng0_inv (n : Nat) (I : Nat → DEnv → MM → Prop) {ds : DEnv} {M : MM} (h0 : I 0 ds M)
    (hs : ∀ i, i < n → ∀ ds M, I i ds M → ∀ K : DEnv → MM → Prop, (∀ ds' M', I (i + 1) ds' M' → K ds' M') → chk M ∧ gt (.int (i : Int)) ds M fun ds1 M1 => b { DD with nx := K, ct := K, bk := DD.nx } ds1 M1)
    (hd : ∀ ds M, I n ds M → chk M ∧ DD.nx ds M) : dLoop chk gt b DD (rngD 0 n) ds M :=
  rng_inv 0 n I h0 (fun i hi ds M h K hK => by rw [Int.zero_add]; exact hs i hi ds M h K hK) hd
variable {ut : DT} {ue : DE} {dw : DEnv} {Q : List D → MM → Prop}
/-- a comprehension whose elements are g of the items, all else left as it is -/
theorem lc_pure (f g : α → D) (ns : List α) {acc : List D} {M : MM} (hc : chk M) (h : ∀ a ∈ ns, ∀ K : DK, K (g a) M → gt (f a) dw M fun ds2 M2 => ue ds2 M2 K) (hl : acc.length + ns.length ≤ sizeLine) (q : Q (acc ++ ns.map g) M) :
    dLcL chk gt dYes ue dw Q (ns.map f) acc M := by
  induction ns generalizing acc with
  | nil =>
    refine ⟨hc, ?_⟩
    rw [List.map_nil, List.append_nil] at q
    exact q
  | cons a ns ih =>
    rw [List.length_cons] at hl
    refine ⟨hc, ?_⟩
    show gt (f a) dw M fun ds2 M2 => ue ds2 M2 fun y M4 => acc.length < sizeLine ∧ dLcL chk gt dYes ue dw Q (ns.map f) (acc ++ [y]) M4
    refine h a List.mem_cons_self _ ⟨by omega, ih (fun b hb => h b (List.mem_cons_of_mem _ hb)) (by rw [List.length_append, List.length_singleton]; omega) ?_⟩
    rw [List.append_assoc]
    exact q
theorem lc_rng (lo : Int) (n : Nat) (g : Nat → D) {M : MM} (hc : chk M) (h : ∀ i, i < n → ∀ K : DK, K (g i) M → gt (.int (lo + (i : Int))) dw M fun ds2 M2 => ue ds2 M2 K) (hl : n ≤ sizeLine) (q : Q ((List.range n).map g) M) :
    dLcL chk gt dYes ue dw Q (rngD lo n) [] M := by
  unfold rngD
  exact lc_pure _ g (List.range n) hc (fun i hi => h i (List.mem_range.mp hi)) (by rw [List.length_nil, List.length_range]; omega) q
theorem lc_rng0 (n : Nat) (g : Nat → D) {M : MM} (hc : chk M) (h : ∀ i, i < n → ∀ K : DK, K (g i) M → gt (.int (i : Int)) dw M fun ds2 M2 => ue ds2 M2 K) (hl : n ≤ sizeLine) (q : Q ((List.range n).map g) M) :
    dLcL chk gt dYes ue dw Q (rngD 0 n) [] M := lc_rng 0 n g hc (fun i hi K k => by rw [Int.zero_add]; exact h i hi K k) hl q
/-- .. in general: J of the part taken, the list so far and the store -/
theorem lc_inv (f : α → D) (ns : List α) (J : List α → List D → MM → Prop) {M : MM} (h0 : J [] [] M)
    (hs : ∀ pre a post acc M, ns = pre ++ a :: post → J pre acc M → ∀ K : List D → MM → Prop, (∀ acc' M', J (pre ++ [a]) acc' M' → K acc' M') →
      chk M ∧ gt (f a) dw M fun ds2 M2 => ut ds2 M2 fun b M3 => if b = true then ue ds2 M3 fun y M4 => acc.length < sizeLine ∧ K (acc ++ [y]) M4 else K acc M3)
    (hd : ∀ acc M, J ns acc M → chk M ∧ Q acc M) : dLcL chk gt ut ue dw Q (ns.map f) [] M := by
  suffices h : ∀ post pre acc M, ns = pre ++ post → J pre acc M → dLcL chk gt ut ue dw Q (post.map f) acc M from h ns [] [] M rfl h0
  intro post
  induction post with
  | nil =>
    intro pre acc M e hi
    rw [List.append_nil] at e
    subst e
    exact hd acc M hi
  | cons a post ih =>
    intro pre acc M e hi
    exact hs pre a post acc M e hi _ fun acc' M' h' => ih (pre ++ [a]) acc' M' (by rw [e, List.append_assoc]; rfl) h'
end
/-! ### lists of data, looked at -/
theorem atI0 {α : Type} {a : α} {r : List α} : atI (a :: r) 0 = some a := atI_nat (j := 0) rfl
theorem atI1 {α : Type} {a b : α} {r : List α} : atI (a :: b :: r) 1 = some b := atI_nat (j := 1) rfl
theorem atI2 {α : Type} {a b c : α} {r : List α} : atI (a :: b :: c :: r) 2 = some c := atI_nat (j := 2) rfl
theorem atI3 {α : Type} {a b c d : α} {r : List α} : atI (a :: b :: c :: d :: r) 3 = some d := atI_nat (j := 3) rfl
theorem atI4 {α : Type} {a b c d e : α} {r : List α} : atI (a :: b :: c :: d :: e :: r) 4 = some e := atI_nat (j := 4) rfl
theorem atI5 {α : Type} {a b c d e f : α} {r : List α} : atI (a :: b :: c :: d :: e :: f :: r) 5 = some f := atI_nat (j := 5) rfl
theorem atI6 {α : Type} {a b c d e f g : α} {r : List α} : atI (a :: b :: c :: d :: e :: f :: g :: r) 6 = some g := atI_nat (j := 6) rfl
theorem getLast_map {ns : List Int} {b : Int} (f : Int → D) : atI ((ns ++ [b]).map f) (-1) = some (f b) := by
  rw [List.map_append]
  exact atI_last _ _
theorem storeL (M : MM) (x : MO) : (M ++ [x])[M.length]? = some x := by
  rw [List.getElem?_append_right (Nat.le_refl _), Nat.sub_self]
  rfl
theorem storeS (M : MM) (x y : MO) : (M ++ [x]).set M.length y = M ++ [y] := by
  rw [List.set_append_right _ _ (Nat.le_refl _), Nat.sub_self]
  rfl
theorem atI_map {α : Type} {ns : List α} {i : Nat} {a : α} (f : α → D) (h : ns[i]? = some a) : atI (ns.map f) (i : Int) = some (f a) := atI_nat (by rw [List.getElem?_map, h]; rfl)
theorem ints_pure : ∀ ns : List Int, D.pureL (ns.map D.int) = true
  | [] => by simp [D.pureL]
  | n :: ns => by simp [D.pureL, D.pure, ints_pure ns]
theorem storeA0 (M L : MM) : (M ++ L)[M.length]? = L[0]? := by
  rw [List.getElem?_append_right (Nat.le_refl _), Nat.sub_self]
theorem storeA (M L : MM) (k : Nat) : (M ++ L)[M.length + k]? = L[k]? := by
  rw [List.getElem?_append_right (Nat.le_add_right _ _), Nat.add_sub_cancel_left]
theorem storeB0 (M L : MM) (y : MO) : (M ++ L).set M.length y = M ++ L.set 0 y := by
  rw [List.set_append_right _ _ (Nat.le_refl _), Nat.sub_self]
theorem storeB (M L : MM) (k : Nat) (y : MO) : (M ++ L).set (M.length + k) y = M ++ L.set k y := by
  rw [List.set_append_right _ _ (Nat.le_add_right _ _), Nat.add_sub_cancel_left]
theorem snocI (M : MM) (found : List Int) (v : Int) : M ++ [.lst (found.map D.int ++ [.int v])] = M ++ [.lst ((found ++ [v]).map D.int)] := by
  rw [List.map_append]
  rfl
theorem cut_take (xs : List D) (k : Nat) : cutD xs none (some (k : Int)) = xs.take k := by
  unfold cutD
  rw [HT.sIx_none, show HT.sIx xs.length xs.length (some (k : Int)) = min k xs.length from HT.sIx_nat xs.length xs.length k, List.drop_zero, Nat.sub_zero]
  by_cases h : k ≤ xs.length
  · rw [Nat.min_eq_left h]
  · rw [Nat.min_eq_right (by omega), List.take_of_length_le (Nat.le_refl _), List.take_of_length_le (by omega)]
theorem cut_drop (xs : List D) (k : Nat) : cutD xs (some (k : Int)) none = xs.drop k := by
  unfold cutD
  rw [HT.sIx_none, show HT.sIx xs.length 0 (some (k : Int)) = min k xs.length from HT.sIx_nat xs.length 0 k]
  by_cases h : k ≤ xs.length
  · rw [Nat.min_eq_left h, List.take_of_length_le (by rw [List.length_drop]; omega)]
  · rw [Nat.min_eq_right (by omega), List.drop_of_length_le (Nat.le_refl _), List.drop_of_length_le (by omega)]
    simp
theorem cut_both (xs : List D) (j k : Nat) : cutD xs (some (j : Int)) (some (k : Int)) = (xs.drop j).take (k - j) := by
  unfold cutD
  rw [show HT.sIx xs.length 0 (some (j : Int)) = min j xs.length from HT.sIx_nat xs.length 0 j, show HT.sIx xs.length xs.length (some (k : Int)) = min k xs.length from HT.sIx_nat xs.length xs.length k]
  have d1 : xs.drop (min j xs.length) = xs.drop j := by
    by_cases h : j ≤ xs.length
    · rw [Nat.min_eq_left h]
    · rw [List.drop_of_length_le (show xs.length ≤ j by omega), List.drop_of_length_le (by omega)]
  rw [d1]
  by_cases h : k ≤ xs.length
  · rw [Nat.min_eq_left h]
    by_cases h2 : j ≤ xs.length
    · rw [Nat.min_eq_left h2]
    · rw [List.drop_of_length_le (show xs.length ≤ j by omega)]
      simp
  · rw [Nat.min_eq_right (show xs.length ≤ k by omega), List.take_of_length_le (by rw [List.length_drop]; omega), List.take_of_length_le (by rw [List.length_drop]; omega)]
theorem size_ok {n : Nat} (h : n ≤ 1000000) : n < sizeLine := Nat.lt_of_le_of_lt h (by rw [sizeLine_eq]; decide)
theorem size_le {n : Nat} (h : n ≤ 1000000) : n ≤ sizeLine := Nat.le_of_lt (size_ok h)
theorem small_log {n : Nat} (h : n < 2 ^ 64) : n.log2 < 64 := by
  by_cases z : n = 0
  · subst z; decide
  · exact (Nat.log2_lt z).mpr h
end AX

/-! the kinds of data; when two are the same -/
namespace AX
open PySem L2
def D.isBl : D → Bool
  | .bl _ => true
  | _ => false
def D.isInt : D → Bool
  | .bl _ => true
  | .int _ => true
  | _ => false
def D.isStr : D → Bool
  | .str _ => true
  | _ => false
def D.isLst : D → Bool
  | .lst _ => true
  | _ => false
def D.isTup : D → Bool
  | .tup _ => true
  | _ => false
section
variable {x : D} {M : MM} {Q : DK}
theorem isi_bl (h : x.pure = true) : isiD x (.ty "bool") M Q = Q (.bl x.isBl) M := by
  cases x <;> first | rfl | (simp [D.pure] at h)
theorem isi_int (h : x.pure = true) : isiD x (.ty "int") M Q = Q (.bl x.isInt) M := by
  cases x <;> first | rfl | (simp [D.pure] at h)
theorem isi_str (h : x.pure = true) : isiD x (.ty "str") M Q = Q (.bl x.isStr) M := by
  cases x <;> first | rfl | (simp [D.pure] at h)
theorem isi_lst (h : x.pure = true) : isiD x (.ty "list") M Q = Q (.bl x.isLst) M := by
  cases x <;> first | rfl | (simp [D.pure] at h)
theorem isi_tup (h : x.pure = true) : isiD x (.ty "tuple") M Q = Q (.bl x.isTup) M := by
  cases x <;> first | rfl | (simp [D.pure] at h)
theorem isi_dic (h : x.pure = true) : isiD x (.ty "dict") M Q = Q (.bl false) M := by
  cases x <;> first | rfl | (simp [D.pure] at h)
theorem res_pure (h : x.pure = true) : x.res M = x := by
  cases x <;> first | rfl | (simp [D.pure] at h)
end
mutual
def D.same : D → D → Bool
  | x, .non => x.isNon
  | .bl a, .bl b => a == b
  | .int a, .int b => decide (a = b)
  | .str a, .str b => a == b
  | .lst xs, .lst ys => D.sameL xs ys
  | .tup xs, .tup ys => D.sameL xs ys
  | _, _ => false
def D.sameL : List D → List D → Bool
  | [], [] => true
  | x :: xs, y :: ys => D.same x y && D.sameL xs ys
  | _, _ => false
end
mutual
theorem D.same_eq : ∀ (x y : D), y.pure = true → (D.same x y = true ↔ x = y)
  | x, .non, _ => by cases x <;> simp [D.same, D.isNon]
  | x, .bl b, _ => by cases x <;> simp [D.same]
  | x, .int b, _ => by cases x <;> simp [D.same]
  | x, .str b, _ => by cases x <;> simp [D.same]
  | x, .lst ys, h => by
    cases x <;> simp only [D.same, reduceCtorEq, Bool.false_eq_true, D.lst.injEq]
    exact D.sameL_eq _ ys (by simpa only [D.pure] using h)
  | x, .tup ys, h => by
    cases x <;> simp only [D.same, reduceCtorEq, Bool.false_eq_true, D.tup.injEq]
    exact D.sameL_eq _ ys (by simpa only [D.pure] using h)
  | x, .loc n, h => by simp [D.pure] at h
  | x, .ty n, h => by simp [D.pure] at h
  | x, .scr n, h => by simp [D.pure] at h
theorem D.sameL_eq : ∀ (xs ys : List D), D.pureL ys = true → (D.sameL xs ys = true ↔ xs = ys)
  | [], [], _ => by simp [D.sameL]
  | [], y :: ys, _ => by simp [D.sameL]
  | x :: xs, [], _ => by simp [D.sameL]
  | x :: xs, y :: ys, h => by
    simp only [D.pureL, Bool.and_eq_true] at h
    simp only [D.sameL, Bool.and_eq_true, List.cons.injEq]
    rw [D.same_eq x y h.1, D.sameL_eq xs ys h.2]
end
theorem D.same_rfl {x : D} (h : x.pure = true) : D.same x x = true := (D.same_eq x x h).mpr rfl
theorem sameL_all : ∀ (xs ys : List D) (hl : xs.length = ys.length), D.sameL xs ys = ((List.range ys.length).map fun i => D.same (xs.getD i .non) (ys.getD i .non)).all fun b => b
  | [], [], _ => by simp [D.sameL]
  | [], y :: ys, h => by simp at h
  | x :: xs, [], h => by simp at h
  | x :: xs, y :: ys, h => by
    have ih := sameL_all xs ys (by simpa using h)
    rw [D.sameL, ih, List.length_cons, List.range_succ_eq_map, List.map_cons, List.all_cons, List.map_map]
    rfl
/-! no list or tuple in it is long -/
mutual
def D.small : D → Bool
  | .lst xs => decide (xs.length ≤ 1000000) && D.smallL xs
  | .tup xs => decide (xs.length ≤ 1000000) && D.smallL xs
  | _ => true
def D.smallL : List D → Bool
  | [] => true
  | d :: ds => d.small && D.smallL ds
end
theorem pureL_mem : ∀ {xs : List D}, D.pureL xs = true → ∀ x ∈ xs, x.pure = true
  | [], _, x, h => by cases h
  | y :: ys, e, x, h => by
    simp only [D.pureL, Bool.and_eq_true] at e
    rcases List.mem_cons.mp h with z | z
    · rw [z]; exact e.1
    · exact pureL_mem e.2 x z
theorem pureL_of : ∀ {xs : List D}, (∀ x ∈ xs, x.pure = true) → D.pureL xs = true
  | [], _ => by simp [D.pureL]
  | y :: ys, e => by
    simp only [D.pureL, Bool.and_eq_true]
    exact ⟨e y List.mem_cons_self, pureL_of fun x h => e x (List.mem_cons_of_mem _ h)⟩
theorem smallL_mem : ∀ {xs : List D}, D.smallL xs = true → ∀ x ∈ xs, x.small = true
  | [], _, x, h => by cases h
  | y :: ys, e, x, h => by
    simp only [D.smallL, Bool.and_eq_true] at e
    rcases List.mem_cons.mp h with z | z
    · rw [z]; exact e.1
    · exact smallL_mem e.2 x z
theorem smallL_of : ∀ {xs : List D}, (∀ x ∈ xs, x.small = true) → D.smallL xs = true
  | [], _ => by simp [D.smallL]
  | y :: ys, e => by
    simp only [D.smallL, Bool.and_eq_true]
    exact ⟨e y List.mem_cons_self, smallL_of fun x h => e x (List.mem_cons_of_mem _ h)⟩
theorem depthL_mem : ∀ {xs : List D} {x : D}, x ∈ xs → x.depth ≤ D.depthL xs
  | [], x, h => by cases h
  | y :: ys, x, h => by
    rw [D.depthL]
    rcases List.mem_cons.mp h with z | z
    · rw [z]; omega
    · have := depthL_mem z; omega
theorem ints_small : ∀ ns : List Int, D.smallL (ns.map D.int) = true
  | [] => by simp [D.smallL]
  | n :: ns => by simp [D.smallL, D.small, ints_small ns]
theorem ints_depth : ∀ ns : List Int, D.depthL (ns.map D.int) = 0
  | [] => by simp [D.depthL]
  | n :: ns => by simp [D.depthL, D.depth, ints_depth ns]
theorem onBls_map {α : Type} (f : α → Bool) (l : List α) (M : MM) (F : List Bool → Prop) : onBls (.lst (l.map fun a => D.bl (f a))) M F = F (l.map f) := by
  have e : l.map (fun a => D.bl (f a)) = (l.map f).map D.bl := by rw [List.map_map]; rfl
  unfold onBls
  rw [e]
  simp only [seqOf, blsOf_map]
theorem onInts_map (ns : List Int) (M : MM) (F : List Int → Prop) : onInts (.lst (ns.map D.int)) M F = F ns := by
  unfold onInts
  simp only [seqOf, intsOf_map]
theorem eqvL_ints : ∀ a b : List Int, D.eqvL (a.map D.int) (b.map D.int) = decide (a = b)
  | [], [] => by simp [D.eqvL]
  | [], _ :: _ => by simp [D.eqvL]
  | _ :: _, [] => by simp [D.eqvL]
  | x :: xs, y :: ys => by
    simp only [List.map_cons, D.eqvL, D.eqv, eqvL_ints xs ys]
    by_cases h : x = y <;> simp [h]
theorem map_int_inj {a b : List Int} (h : a.map D.int = b.map D.int) : a = b := by
  have e := eqvL_ints a b
  rw [h, eqvL_ints b b] at e
  simpa using e.symm
theorem atI_getD {xs : List D} {i : Nat} (h : i < xs.length) : atI xs (i : Int) = some (xs.getD i .non) := by
  rw [List.getD_eq_getElem?_getD, List.getElem?_eq_getElem h]
  exact atI_nat (List.getElem?_eq_getElem h)
/-! ### ifs whose tests are known -/
section
variable {t : DT} {u v : DS} {DD : DEnds} {ds : DEnv} {M : MM}
theorem if_no (h : ∀ Q : Bool → MM → Prop, Q false M → t ds M Q) (k : v DD ds M) : dSeq (dIfS t u dNext) v DD ds M := by
  show t ds M _
  refine h _ ?_
  rw [if_neg Bool.false_ne_true]
  exact k
theorem if_yes (h : ∀ Q : Bool → MM → Prop, Q true M → t ds M Q) (k : u { DD with nx := v DD } ds M) : dSeq (dIfS t u dNext) v DD ds M := by
  show t ds M _
  refine h _ ?_
  rw [if_pos rfl]
  exact k
theorem tst_isi {i : Nat} {d : D} {T : String} {b : Bool} (hv : ds[i]? = some (some d)) (h : ∀ M Q, isiD d (.ty T) M Q = Q (.bl b) M) (Q : Bool → MM → Prop) (q : Q b M) : dTest (dCB (a2 isiD) (dCons (dVar i) (dCons (dC (.ty T)) dNil))) ds M Q := by
  simp only [dTest, dCB, a2, dCons, dVar, dC, dNil, hv, h]
  exact q
theorem tst_non {i : Nat} {d : D} {b : Bool} (hv : ds[i]? = some (some d)) (h : d.isNon = b) (Q : Bool → MM → Prop) (q : Q b M) : dTest (dOp dIs (dVar i) (dC .non)) ds M Q := by
  simp only [dTest, dOp, dIs, dVar, dC, hv, h]
  exact q
theorem andV_no {ua ub : DE} {Q : DK} (h : ∀ Q : DK, Q (.bl false) M → ua ds M Q) (k : Q (.bl false) M) : dAndV ua ub ds M Q := by
  show ua ds M _
  refine h _ ?_
  simp only [Bool.false_eq_true, if_false]
  exact k
theorem andV_yes {ua ub : DE} {Q : DK} (h : ∀ Q : DK, Q (.bl true) M → ua ds M Q) (k : ub ds M Q) : dAndV ua ub ds M Q := by
  show ua ds M _
  refine h _ ?_
  simp only [if_true]
  exact k
theorem val_isi {i : Nat} {d : D} {T : String} {b : Bool} (hv : ds[i]? = some (some d)) (h : ∀ M Q, isiD d (.ty T) M Q = Q (.bl b) M) (Q : DK) (q : Q (.bl b) M) : dCB (a2 isiD) (dCons (dVar i) (dCons (dC (.ty T)) dNil)) ds M Q := by
  simp only [dCB, a2, dCons, dVar, dC, dNil, hv, h]
  exact q
theorem val_eq {i j : Nat} {x y : D} {b : Bool} (hx : ds[i]? = some (some x)) (hy : ds[j]? = some (some y)) (px : x.pure = true) (py : y.pure = true) (hd : x.depth ≤ 60) (e : D.eqv x y = b) (Q : DK) (q : Q (.bl b) M) : dOp dEq (dVar i) (dVar j) ds M Q := by
  simp only [dOp, dVar, hx, hy]
  subst e
  unfold dEq
  split
  · split
    · rw [show D.eqv (.int _) (.int _) = decide (_ = _) by simp only [D.eqv]; exact Bool.beq_eq_decide_eq _ _] at q
      exact q
    · exact ⟨by rw [res_pure px]; exact px, by rw [res_pure py]; exact py, by rw [res_pure px]; exact hd, by rw [res_pure px, res_pure py]; exact q⟩
  · exact ⟨by rw [res_pure px]; exact px, by rw [res_pure py]; exact py, by rw [res_pure px]; exact hd, by rw [res_pure px, res_pure py]; exact q⟩
end
end AX

/-! the law itself: from the plain data to what walk_of asks -/
namespace AX
open PySem L2 PyProof.Rows
def spLaw (n : Nat) (K : PySem.W.Frag) : Sp := fun vs H Q _ => ∃ (a : Addr) (ns : List Int), vs = [.ref a] ∧ SqL K H a (ns.map V.int) ∧ ns.length ≤ n ∧ ∀ H', Q (.bl true) H'
/-- a law's body: it answers True -/
def spLawD (n : Nat) : DSp := fun ds M Q => ∃ ns : List Int, ds = [.scr (ns.map D.int)] ∧ ns.length ≤ n ∧ M = [] ∧ ∀ M', Q (.bl true) M'
theorem len_lawD {n : Nat} (ds : List D) (M : MM) (Q : DK) : spLawD n ds M Q → ds.length = 1 := fun ⟨_, e, _⟩ => e ▸ rfl
theorem rel_ints {K : PySem.W.Frag} {g : G} : ∀ ns : List Int, RelL K g (ns.map D.int) (ns.map V.int)
  | [] => .nil
  | n :: ns => .cons (.int n) (rel_ints ns)
section
variable {P : Program} {w : World} {K : PySem.W.Frag} {mg : Str → Option Value} {base : Heap} {k : Nat} {f : Addr} {fd : FuncData} {n : Nat}
theorem law_imp (F : FnOk P w K mg base CX0 k f fd ["script"] (liftSp K (spLawD n))) : FnOk P w K mg base CX0 k f fd ["script"] (spLaw n K) :=
  F.imp fun vs H Q E ⟨a, ns, e, hS, hl, q⟩ => ⟨⟨H, []⟩, [], [.scr (ns.map D.int)], fun d _ => d = .bl true, ⟨fun _ _ e => e, rfl, List.nodup_nil, fun a h => (by cases h), fun n a mo h => (by simp at h), Gx.refl _ _⟩, by rw [e]; exact .cons (.scr hS (rel_ints ns)) .nil,
    ⟨ns, rfl, hl, rfl, fun _ => rfl⟩, fun g' H' M' d v _ _ rd q' => by
      subst q'
      cases rd
      exact q H'⟩
/-- a promise that is never asked for -/
theorem fn_none {x qual : Str} {st : Stmt} {N ps : List Str} {sp : DSp} (F : Fun K x qual st f fd) (S : FnScope N ps (defScope st)) (h : ∀ ds M Q, ¬ sp ds M Q) : FnOk P w K mg base CX0 (k + 1) f fd ps (liftSp K sp) :=
  F.ok S (fun vs H Q E ⟨_, _, _, _, _, _, q, _⟩ => (h _ _ _ q).elim) fun cdv A outer s H vs Q E hr ⟨_, _, _, _, _, _, q, _⟩ => (h _ _ _ q).elim
end
end AX

/-! one statement after another; tests and values by what they are worth -/
namespace AX
open PySem L2
section
variable {a b : DS} {D : DEnds} {ds : DEnv} {M : MM}
theorem seq_go (h : ∀ N : DEnv → MM → Prop, (∀ ds M, b D ds M → N ds M) → a { D with nx := N } ds M) : dSeq a b D ds M := h _ fun _ _ h => h
end
/-- t answers v, from M1 on to M2 -/
abbrev TstM (t : DT) (ds : DEnv) (M : MM) (v : Bool) (M2 : MM) : Prop := ∀ Q : Bool → MM → Prop, Q v M2 → t ds M Q
abbrev Tst (t : DT) (ds : DEnv) (M : MM) (v : Bool) : Prop := TstM t ds M v M
abbrev Val (e : DE) (ds : DEnv) (M : MM) (d : D) : Prop := ∀ Q : DK, Q d M → e ds M Q
section
variable {t u : DT} {e e1 e2 : DE} {ds : DEnv} {M : MM} {DD : DEnds} {s1 s2 s3 : DS}
theorem t_not {v : Bool} (h : Tst t ds M (!v)) : Tst (dNot t) ds M v := fun Q q => h _ (by rw [Bool.not_not]; exact q)
theorem t_or0 (h : Tst t ds M false) (h2 : Tst u ds M false) : Tst (dOr t u) ds M false := fun Q q => h _ (by rw [if_neg Bool.false_ne_true]; exact h2 Q q)
theorem t_orR {v : Bool} (h : Tst t ds M false) (h2 : Tst u ds M v) : Tst (dOr t u) ds M v := fun Q q => h _ (by rw [if_neg Bool.false_ne_true]; exact h2 Q q)
theorem t_orL (h : Tst t ds M true) : Tst (dOr t u) ds M true := fun Q q => h _ (by rw [if_pos rfl]; exact q)
theorem t_andL (h : Tst t ds M false) : Tst (dAnd t u) ds M false := fun Q q => h _ (by rw [if_neg Bool.false_ne_true]; exact q)
theorem t_andR {v : Bool} (h : Tst t ds M true) (h2 : Tst u ds M v) : Tst (dAnd t u) ds M v := fun Q q => h _ (by rw [if_pos rfl]; exact h2 Q q)
theorem t_val {v : Bool} (h : Val e ds M (.bl v)) : Tst (dTest e) ds M v := fun Q q => h _ q
theorem v_var {i : Nat} {d : D} (h : ds[i]? = some (some d)) : Val (dVar i) ds M d := fun Q q => by
  simp only [dVar, h]
  exact q
theorem v_call1 {sp : DSp} {x d : D} (h1 : Val e1 ds M x) (h : ∀ Q : DK, Q d M → sp [x] M Q) : Val (dCall sp (dCons e1 dNil)) ds M d := fun Q q => h1 _ (h Q q)
theorem v_call2 {sp : DSp} {x y d : D} (h1 : Val e1 ds M x) (h2 : Val e2 ds M y) (h : ∀ Q : DK, Q d M → sp [x, y] M Q) : Val (dCall sp (dCons e1 (dCons e2 dNil))) ds M d := fun Q q => h1 _ (h2 _ (h Q q))
theorem v_op {op : D2} {x y d : D} (h1 : Val e1 ds M x) (h2 : Val e2 ds M y) (h : ∀ Q : DK, Q d M → op x y M Q) : Val (dOp op e1 e2) ds M d := fun Q q => h1 _ (h2 _ (h Q q))
theorem v_len {xs : List D} (h1 : Val e1 ds M (.lst xs)) : Val (dCB (a1 lenD) (dCons e1 dNil)) ds M (.int (xs.length : Nat)) := fun Q q => h1 _ q
theorem v_lst1 {x : D} (h : Val e1 ds M x) : Val (dLst (dCons e1 dNil)) ds M (.lst [x]) := fun Q q => h _ ⟨size_le (show 1 ≤ 1000000 by decide), q⟩
theorem v_if1 (h : Tst t ds M true) {K : DK} (k : e1 ds M K) : dIf t e1 e2 ds M K := h _ (by rw [if_pos rfl]; exact k)
theorem v_if0 (h : Tst t ds M false) {K : DK} (k : e2 ds M K) : dIf t e1 e2 ds M K := h _ (by rw [if_neg Bool.false_ne_true]; exact k)
/-- an if that is not taken, one that is -/
theorem if0 (h : Tst t ds M false) (k : s2 DD ds M) : dIfS t s1 s2 DD ds M := h _ (by rw [if_neg Bool.false_ne_true]; exact k)
theorem if1 (h : Tst t ds M true) (k : s1 DD ds M) : dIfS t s1 s2 DD ds M := h _ (by rw [if_pos rfl]; exact k)
theorem asg {i : Nat} {d : D} (h : Val e ds M d) (k : DD.nx (ds.set i (some d)) M) : dAsg e (dgN i) DD ds M := h _ k
end
/-- a test on what is there: it is worth whether -/
theorem eq_ints (a b : List Int) (M : MM) (Q : DK) (q : Q (.bl (decide (a = b))) M) : dEq (.lst (a.map D.int)) (.lst (b.map D.int)) M Q := by
  refine ⟨ints_pure' a, ints_pure' b, by show D.depth _ ≤ 60; rw [show (D.lst (a.map D.int)).res M = .lst (a.map D.int) from rfl, D.depth, ints_depth]; decide, ?_⟩
  show Q (.bl (D.eqv (.lst _) (.lst _))) M
  rw [D.eqv, eqvL_ints]
  exact q
where ints_pure' (a : List Int) : (D.lst (a.map D.int)).pure = true := by simp only [D.pure]; exact ints_pure a
theorem ne_ints (a b : List Int) (M : MM) (Q : DK) (q : Q (.bl (!decide (a = b))) M) : dNe (.lst (a.map D.int)) (.lst (b.map D.int)) M Q := by
  refine ⟨eq_ints.ints_pure' a, eq_ints.ints_pure' b, by show D.depth _ ≤ 60; rw [show (D.lst (a.map D.int)).res M = .lst (a.map D.int) from rfl, D.depth, ints_depth]; decide, ?_⟩
  show Q (.bl (!D.eqv (.lst _) (.lst _))) M
  rw [D.eqv, eqvL_ints]
  exact q
theorem eq_str (a b : Str) (M : MM) (Q : DK) (q : Q (.bl (a == b)) M) : dEq (.str a) (.str b) M Q := by
  refine ⟨by simp [D.res, D.pure], by simp [D.res, D.pure], by simp [D.res, D.depth], ?_⟩
  simp only [D.res, D.eqv]
  exact q
theorem ne_str (a b : Str) (M : MM) (Q : DK) (q : Q (.bl (!(a == b))) M) : dNe (.str a) (.str b) M Q := by
  refine ⟨by simp [D.res, D.pure], by simp [D.res, D.pure], by simp [D.res, D.depth], ?_⟩
  simp only [D.res, D.eqv]
  exact q
/-! lists, here or in the store -/
section
variable {x : D} {xs : List D} {M : MM}
theorem seq_loc {n : Nat} (h : seqOf M (.loc n) = some xs) : M[n]? = some (.lst xs) := by
  unfold seqOf at h
  simp only at h
  split at h
  · rename_i e
    cases h
    exact e
  · cases h
theorem len_seq (h : seqOf M x = some xs) (Q : DK) (q : Q (.int (xs.length : Nat)) M) : lenD x M Q := by
  cases x with
  | lst ys => cases h; exact q
  | loc n =>
    unfold lenD
    simp only [seq_loc h]
    exact q
  | _ => cases h
theorem ix_seq (h : seqOf M x = some xs) {i : Int} {d : D} (hi : atI xs i = some d) (Q : DK) (q : Q d M) : dIx x (.int i) M Q := by
  have q' : ixL xs (.int i) M Q := by
    unfold ixL
    simp only [hi]
    exact q
  cases x with
  | lst ys => cases h; exact q'
  | loc n =>
    unfold dIx
    simp only [seq_loc h]
    exact q'
  | _ => cases h
theorem sl_seq (h : seqOf M x = some xs) (lo hi : Option Int) (Q : DK) (q : Q (.lst (cutD xs lo hi)) M) : slD x lo hi M Q := by
  cases x with
  | lst ys => cases h; exact q
  | loc n =>
    unfold slD
    simp only [h]
    exact q
  | _ => cases h
theorem list_seq (h : seqOf M x = some xs) (Q : DK) (q : Q (.lst xs) M) : listD x M Q := by
  cases x with
  | lst ys => cases h; exact q
  | loc n =>
    unfold listD
    simp only [h]
    exact q
  | _ => cases h
end
theorem cut_front (xs : List D) : cutD xs none (some (-1)) = xs.dropLast := by
  unfold cutD
  rw [HT.sIx_none, List.drop_zero, Nat.sub_zero, show HT.sIx xs.length xs.length (some (-1)) = xs.length - 1 by
    show (if (-1 : Int) < 0 then ((-1 : Int) + (xs.length : Int)).toNat else min (-1 : Int).toNat xs.length) = _
    rw [if_pos (by decide)]
    omega, List.dropLast_eq_take]
end AX

/-! The first of the two preludes that stand in the laws: numbers to be drawn from; things that are the same. -/
namespace PA
open PySem L2 AX
def u__law_draws : DS :=
  (dSeq (dAsg (dNew dNil) (dgN 1))
  (dSeq (dFor (dList (dOp dAdd (dCB (a1 listD) (dCons (dSl (dVar 0) dNoP (dPart (dC (.int 8)))) dNil)) (dLst (dCons (dC (.int 7)) dNil)))) (dgN 2)
  (dSeq (dAsg (dCB (a1 absD) (dCons (dCB (a1 intD) (dCons (dVar 2) dNil)) dNil)) (dgN 3))
  (dSeq (dAsg (dOp dAdd (dOp dMod (dCB (a1 intD) (dCons (dVar 2) dNil)) (dC (.int 1000003))) (dC (.int 1))) (dgN 4))
  (dFor (dRng1 (dCons (dC (.int 40)) dNil)) (dgN 5)
  (dIfS (dTest (dOp dGe (dVar 3) (dC (.int 1048576))))
  (dSeq (dDrop (dBM "list" appD (dVar 1) (dCons (dOp dMod (dCB (a1 intD) (dCons (dVar 3) dNil)) (dC (.int 1048576))) dNil)))
  (dAsg (dOp dFdiv (dVar 3) (dC (.int 1048576))) (dgN 3))) (dSeq (dAsg (dOp dMod (dCB (a1 intD) (dCons (dOp dAdd (dOp dAdd (dOp dAdd (dOp dTimes (dVar 4) (dC (.int 48271))) (dOp dTimes (dC (.int 11)) (dVar 5))) (dC (.int 7))) (dVar 3)) dNil)) (dC (.int 2147483647))) (dgN 4))
  (dDrop (dBM "list" appD (dVar 1) (dCons (dOp dMod (dCB (a1 intD) (dCons (dOp dFdiv (dOp dTimes (dVar 4) (dC (.int 2862933555777941757))) (dC (.int 1024))) dNil)) (dC (.int 1048576))) dNil)))))))))
  (dRet (dDisp (((dC (.str "numbers")), (dFrz (dVar 1))) :: (((dC (.str "at")), (dC (.int 0))) :: []))))))
def u__law_next : DS :=
  (dSeq (dAsg (dCB (a1 intD) (dCons (dOp dIx (dVar 0) (dC (.str "at"))) dNil)) (dgN 2))
  (dSeq (dAsg (dOp dAdd (dVar 2) (dC (.int 1))) (dgSub (dVar 0) (dC (.str "at"))))
  (dRet (dOp dMod (dCB (a1 intD) (dCons (dOp dAdd (dOp dIx (dOp dIx (dVar 0) (dC (.str "numbers"))) (dOp dMod (dVar 2) (dCB (a1 lenD) (dCons (dOp dIx (dVar 0) (dC (.str "numbers"))) dNil)))) (dOp dTimes (dC (.int 31)) (dOp dFdiv (dVar 2) (dCB (a1 lenD) (dCons (dOp dIx (dVar 0) (dC (.str "numbers"))) dNil))))) dNil)) (dVar 1)))))
def u__law_same (sp__law_same : DSp) : DS :=
  (dSeq (dIfS (dTest (dOp dIs (dVar 1) (dC .non)))
  (dRet (dOp dIs (dVar 0) (dC .non))) dNext)
  (dSeq (dIfS (dTest (dCB (a2 isiD) (dCons (dVar 1) (dCons (dC (.ty "bool")) dNil))))
  (dRet (dAndV (dCB (a2 isiD) (dCons (dVar 0) (dCons (dC (.ty "bool")) dNil))) (dOp dEq (dVar 0) (dVar 1)))) dNext)
  (dSeq (dIfS (dTest (dCB (a2 isiD) (dCons (dVar 1) (dCons (dC (.ty "int")) dNil))))
  (dRet (dAndV (dCB (a2 isiD) (dCons (dVar 0) (dCons (dC (.ty "int")) dNil))) (dAndV (dNotV (dCB (a2 isiD) (dCons (dVar 0) (dCons (dC (.ty "bool")) dNil)))) (dOp dEq (dVar 0) (dVar 1))))) dNext)
  (dSeq (dIfS (dTest (dCB (a2 isiD) (dCons (dVar 1) (dCons (dC (.ty "str")) dNil))))
  (dRet (dAndV (dCB (a2 isiD) (dCons (dVar 0) (dCons (dC (.ty "str")) dNil))) (dOp dEq (dVar 0) (dVar 1)))) dNext)
  (dSeq (dIfS (dTest (dCB (a2 isiD) (dCons (dVar 1) (dCons (dC (.ty "dict")) dNil))))
  (fun _ _ _ => False) dNext)
  (dSeq (dIfS (dTest (dCB (a2 isiD) (dCons (dVar 1) (dCons (dC (.ty "list")) dNil))))
  (dRet (dAndV (dCB (a2 isiD) (dCons (dVar 0) (dCons (dC (.ty "list")) dNil))) (dAndV (dOp dEq (dCB (a1 lenD) (dCons (dVar 0) dNil)) (dCB (a1 lenD) (dCons (dVar 1) dNil))) (dCB allL (dCons (dLc (dRng1 (dCons (dCB (a1 lenD) (dCons (dVar 1) dNil)) dNil)) (dgN 3) dYes (dCall sp__law_same (dCons (dOp dIx (dVar 0) (dVar 3)) (dCons (dOp dIx (dVar 1) (dVar 3)) dNil))) [3]) dNil))))) dNext)
  (dRet (dAndV (dCB (a2 isiD) (dCons (dVar 0) (dCons (dC (.ty "tuple")) dNil))) (dAndV (dOp dEq (dCB (a1 lenD) (dCons (dVar 0) dNil)) (dCB (a1 lenD) (dCons (dVar 1) dNil))) (dCB allL (dCons (dLc (dRng1 (dCons (dCB (a1 lenD) (dCons (dVar 1) dNil)) dNil)) (dgN 3) dYes (dCall sp__law_same (dCons (dOp dIx (dVar 0) (dVar 3)) (dCons (dOp dIx (dVar 1) (dVar 3)) dNil))) [3]) dNil)))))))))))
def u__law_pick (sp__law_next : DSp) : DS :=
  (dRet (dOp dIx (dVar 1) (dCall sp__law_next (dCons (dVar 0) (dCons (dCB (a1 lenD) (dCons (dVar 1) dNil)) dNil)))))
local macro_rules | `(tactic| walk_at "ev") => `(tactic| (simp only [dSeq, dAsg, dNew, dC, dgN, dFor, dList, dVar, dIf, dAnd, dOr, dNot, dTest, dOp, dUn, dCB, a1, a2, lenD, dCons, dNil, dNeg, dEq, dNe, dIx, ixL, dAdd, dSub, dI2, dI2C, dFdiv, dMod, dLt, dLe, dGt, dGe, dDrop, dBM, tyD, appD, dIfS, dNext, dRet, dFrz, dPar, dgTup, dgCons, dgNil, dgSub, dWhile, dBrk, dCnt, dRetN, dTupI, dStrI, dLc, dYes, wipeD, dTru, truD, dNoP, dChain, dPow, dShl, dShr, dBand, dBor, dBxor, dMul, dIn, dNotIn, inG, dgN, dAug, dIAdd, onInts, onBls, dSset, max2D, min2D, sumL, allL, anyL, maxL, minL, sortedL, listN, dRng1, dRng2, dTup, dLst, dIs, dIsNot, D.isNon, intD, absD, listD, seqOf, dSl, dNoP, dPart, slD, dTimes, dAndV, dOrV, dNotV, dCall, dDisp, dPairs, dgSub, dSetI, dkey, keysOf, strD, addL, storeA0, storeA, storeB0, storeB, List.length_append, List.append_assoc, List.cons_append, List.nil_append, eqG, D.res, D.pure, D.depth, D.eqv, Int.reduceEq, Int.reduceLT, Int.reduceLE, Int.reduceNeg, Int.reduceAdd, Int.reduceSub, Int.reducePow,
  List.getElem?_cons_zero, List.getElem?_cons_succ, List.set_cons_zero, List.set_cons_succ, List.length_cons, List.length_nil, List.length_map, Nat.reduceAdd, Bool.not_eq_true, Bool.not_true, Bool.not_false, if_true, if_false, Bool.false_eq_true, decide_eq_true_eq, true_and, and_true, reduceCtorEq, ite_true, ite_false, Nat.zero_le, atI0, atI1, atI2, atI3, atI4, atI5, atI6]))
local macro_rules | `(tactic| walk_at "sd") => `(tactic| first | assumption | decide | omega | (exact size_ok (by omega)) | (exact size_le (by omega)) | (unfold TimesOk; omega) | (rw [sizeLine_eq]; decide))
local macro_rules | `(tactic| walk_at "go") => `(tactic| repeat ((with_reducible refine And.intro ?_ ?_); (· walk_at "sd")))
local macro_rules | `(tactic| walk_at "ft") => `(tactic| repeat (first | assumption | exact fit_int _ _ | exact fit_str _ _ | exact fit_bl _ _ | exact fit_non _ | exact fits_nil | refine fits_cons ?_ ?_ | exact fit_ints _ (by omega) _ | refine fit_lst (by simp only [List.length_cons, List.length_nil]; omega) ?_ | refine fit_tup (by simp only [List.length_cons, List.length_nil]; omega) ?_))
local macro_rules | `(tactic| walk_at "fo") => `(tactic| repeat ((with_reducible refine And.intro ?_ ?_); (· first | exact ⟨rfl, rfl⟩ | exact ⟨rfl, rfl, Nat.le_of_ble_eq_true rfl, Nat.le_of_ble_eq_true rfl⟩ | exact size_le (by decide))))
abbrev ends (M : MM) (Q : DK) : DEnds := { nx := fun _ M' => Exit M Q .non M', rt := Exit M Q }
/-- the object that is drawn from -/
def IsDraws (mo : MO) : Prop := ∃ (ns : List Int) (k : Int), mo = .dic [(.inr "numbers", .lst (ns.map D.int)), (.inr "at", .int k)] ∧ 0 < ns.length ∧ ns.length ≤ 1000 ∧ 0 ≤ k
theorem IsDraws.under {mo : MO} (h : IsDraws mo) (k : Nat) : mo.under k = true := by
  obtain ⟨ns, i, rfl, _⟩ := h
  simp [MO.under, D.underL, D.under, D.pureL_under (ints_pure ns)]
def spDraws : DSp := fun ds M Q => ∃ ns : List Int, ds = [.scr (ns.map D.int)] ∧ ∀ mo, IsDraws mo → Q (.loc (M.length + 1)) (M ++ [.gone, mo])
def spNext : DSp := fun ds M Q => ∃ (n : Nat) (b : Int) (mo : MO), ds = [.loc n, .int b] ∧ M[n]? = some mo ∧ IsDraws mo ∧ 0 < b ∧ ∀ r mo', 0 ≤ r → r < b → IsDraws mo' → Q (.int r) (M.set n mo')
theorem str_ne : ¬ (("numbers" : Str) = "at") := by decide +kernel
theorem ns_ne : ¬ ((.inr "numbers" : Key) = .inr "at") := inr_ne str_ne
theorem b_next {n : Nat} {b : Int} {mo : MO} {M : MM} {Q : DK} (hm : M[n]? = some mo) (hd : IsDraws mo) (hb : 0 < b) (q : ∀ r mo', 0 ≤ r → r < b → IsDraws mo' → Q (.int r) (M.set n mo')) : u__law_next (ends M Q) [some (.loc n), some (.int b), none] M := by
  obtain ⟨ns, k, rfl, h1, h2, h3⟩ := hd
  have l1 : dlook [((.inr "numbers" : Key), D.lst (ns.map D.int)), (.inr "at", D.int k)] (.inr "at") = some (.int k) := by
    rw [dlook_miss ns_ne, dlook_hit]
  have hn : n < M.length := (List.getElem?_eq_some_iff.mp hm).1
  have e1 : dput [((.inr "numbers" : Key), D.lst (ns.map D.int)), (.inr "at", D.int k)] (.inr "at") (.int (k + 1)) = [(.inr "numbers", .lst (ns.map D.int)), (.inr "at", .int (k + 1))] := by
    unfold dput
    rw [if_pos (by simp)]
    simp only [List.map_cons, List.map_nil, if_neg ns_ne, if_true]
  have l2 : dlook [((.inr "numbers" : Key), D.lst (ns.map D.int)), (.inr "at", D.int (k + 1))] (.inr "numbers") = some (.lst (ns.map D.int)) := by
    rw [dlook_hit]
  have m2 : (M.set n (.dic [(.inr "numbers", .lst (ns.map D.int)), (.inr "at", .int (k + 1))]))[n]? = some (.dic [(.inr "numbers", .lst (ns.map D.int)), (.inr "at", .int (k + 1))]) := List.getElem?_set_self hn
  have hpos : (0 : Int) < (ns.length : Int) := by omega
  have hmod : k % (ns.length : Int) < (ns.length : Int) := Int.emod_lt_of_pos _ hpos
  have hmod0 : 0 ≤ k % (ns.length : Int) := Int.emod_nonneg _ (by omega)
  obtain ⟨j, hj⟩ := Int.eq_ofNat_of_zero_le hmod0
  have jl : j < ns.length := by omega
  have hx : atI (ns.map D.int) (k % (ns.length : Int)) = some (.int ns[j]) := by rw [hj]; exact atI_map _ (List.getElem?_eq_getElem jl)
  unfold u__law_next
  walk_at "ev"
  simp only [hm, l1]
  walk_at "ev"
  simp only [hm, e1, m2, l2]
  walk_at "ev"
  have lg : ((ns.length : Int)).natAbs.log2 < 9000 := Nat.lt_of_lt_of_le (small_log (by omega)) (by decide)
  refine ⟨by rw [sizeLine_eq]; decide, hpos, ?_⟩
  rw [hx]
  walk_at "ev"
  refine ⟨⟨hpos, lg⟩, .inl (.inl (by decide)), hb, ?_⟩
  exact .all (q _ _ (Int.emod_nonneg _ (by omega)) (Int.emod_lt_of_pos _ hb) ⟨ns, k + 1, rfl, h1, h2, by omega⟩)
theorem b_draws {ns : List Int} {M : MM} {Q : DK} (q : ∀ mo, IsDraws mo → Q (.loc (M.length + 1)) (M ++ [.gone, mo])) : u__law_draws (ends M Q) [some (.scr (ns.map D.int)), none, none, none, none, none] M := by
  have ex : cutD (ns.map D.int) none (some 8) ++ [D.int 7] = (ns.take 8 ++ [7]).map D.int := by
    rw [show (8 : Int) = ((8 : Nat) : Int) from rfl, cut_take, List.map_append, List.map_take]
    rfl
  have el : (cutD (ns.map D.int) none (some 8)).length + 1 = (ns.take 8 ++ [7]).length := by
    have z : (cutD (ns.map D.int) none (some 8) ++ [D.int 7]).length = (ns.take 8 ++ [7]).length := by rw [ex, List.length_map]
    rw [List.length_append] at z
    exact z
  have l9 : (ns.take 8 ++ [7]).length ≤ 9 := by rw [List.length_append, List.length_take]; simp; omega
  unfold u__law_draws
  walk_at "ev"
  have sz0 : (cutD (ns.map D.int) none (some 8)).length + 1 ≤ sizeLine := size_le (by omega)
  walk_at "go"
  rw [ex]
  refine loop_inv D.int (ns.take 8 ++ [7]) (fun pre ds M' => ∃ (found : List Int) (y2 y3 y4 y5 : Option D), ds = [some (.scr (ns.map D.int)), some (.loc M.length), y2, y3, y4, y5] ∧ M' = M ++ [.lst (found.map D.int)] ∧ found.length = 40 * pre.length)
    ⟨[], none, none, none, none, rfl, rfl, rfl⟩ ?_ ?_
  · rintro pre c post e ds M' ⟨found, y2, y3, y4, y5, rfl, rfl, hf⟩ K hK
    have hp : pre.length + 1 + post.length ≤ 9 := by
      have z : (ns.take 8 ++ [7]).length = (pre ++ c :: post).length := by rw [e]
      simp only [List.length_append, List.length_cons, List.length_nil] at z l9 ⊢
      omega
    refine ⟨trivial, ?_⟩
    walk_at "ev"
    refine rng0_inv 40 (fun i ds M' => ∃ (found : List Int) (r x : Int) (y5 : Option D), ds = [some (.scr (ns.map D.int)), some (.loc M.length), some (.int c), some (.int r), some (.int x), y5] ∧ M' = M ++ [.lst (found.map D.int)] ∧ found.length = 40 * pre.length + i)
      ⟨found, _, _, _, rfl, rfl, hf⟩ ?_ ?_
    · rintro i hi ds M' ⟨found, r, x, y5, rfl, rfl, hf⟩ K' hK'
      have sz : found.length < sizeLine := size_ok (by omega)
      have on : ∀ v r' x', K' [some (.scr (ns.map D.int)), some (.loc M.length), some (.int c), some (.int r'), some (.int x'), some (.int (i : Int))] (M ++ [.lst (found.map D.int ++ [.int v])]) := fun v r' x' =>
        hK' _ _ ⟨found ++ [v], r', x', _, rfl, snocI _ _ _, by rw [List.length_append, List.length_singleton]; omega⟩
      refine ⟨trivial, ?_⟩
      walk_at "ev"
      split
      · walk_at "go"
        exact on _ _ _
      · walk_at "go"
        exact on _ _ _
    · rintro ds M' ⟨found, r, x, y5, rfl, rfl, hf⟩
      exact ⟨trivial, hK _ _ ⟨found, _, _, _, _, rfl, rfl, by rw [List.length_append, List.length_singleton]; omega⟩⟩
  · rintro ds M' ⟨found, y2, y3, y4, y5, rfl, rfl, hf⟩
    refine ⟨trivial, ?_⟩
    walk_at "ev"
    have l9' : 1 ≤ (ns.take 8 ++ [7]).length := by simp only [List.length_append, List.length_cons]; omega
    have e1 : dmerge [] [((.inr "numbers" : Key), D.lst (found.map D.int)), (.inr "at", D.int 0)] = [(.inr "numbers", .lst (found.map D.int)), (.inr "at", .int 0)] := by
      unfold dmerge
      simp only [List.foldl_cons, List.foldl_nil]
      unfold dput
      simp [str_ne]
    rw [e1]
    walk_at "go"
    exact .all (q _ ⟨found, 0, rfl, by omega, by omega, Int.le_refl _⟩)
/-- what _law_same is worth, of data that is n deep at most -/
def spSame (n : Nat) : DSp := fun ds M Q => ∃ x y : D, ds = [x, y] ∧ x.pure = true ∧ y.pure = true ∧ y.small = true ∧ y.depth < n ∧ x.depth ≤ 60 ∧ Q (.bl (D.same x y)) M
theorem same_items {n : Nat} {xs ys : List D} {M : MM} {Q : DK} (hx : D.pureL xs = true) (hy : D.pureL ys = true) (hs : D.smallL ys = true) (hl : xs.length = ys.length) (hz : ys.length ≤ 1000000) (hd : D.depthL ys < n) (hd2 : D.depthL xs ≤ 60) (x y : D) (ex : ∀ i Q, dIx x i M Q = ixL xs i M Q) (ey : ∀ i Q, dIx y i M Q = ixL ys i M Q)
    (q : Q (.bl (D.sameL xs ys)) M) : dLcL noChk (dgN 3) dYes (dCall (spSame n) (dCons (dOp dIx (dVar 0) (dVar 3)) (dCons (dOp dIx (dVar 1) (dVar 3)) dNil))) [some x, some y, none, none] (fun zs M2 => onBls (.lst zs) M2 fun bs => Q (.bl (bs.all fun b => b)) M2) (rngD 0 ys.length) [] M := by
  refine lc_rng0 _ (fun i => .bl (D.same (xs.getD i .non) (ys.getD i .non))) trivial (fun i hi K k => ?_) (size_le hz) ?_
  · have hi1 : i < xs.length := by omega
    have m1 : xs.getD i .non ∈ xs := by rw [List.getD_eq_getElem?_getD, List.getElem?_eq_getElem hi1]; exact List.getElem_mem _
    have m2 : ys.getD i .non ∈ ys := by rw [List.getD_eq_getElem?_getD, List.getElem?_eq_getElem hi]; exact List.getElem_mem _
    show dIx x (.int (i : Int)) M _
    rw [ex]
    show ixL xs (.int (i : Int)) M _
    unfold ixL
    simp only [atI_getD hi1]
    show dIx y (.int (i : Int)) M _
    rw [ey]
    unfold ixL
    simp only [atI_getD hi]
    exact ⟨_, _, rfl, pureL_mem hx _ m1, pureL_mem hy _ m2, smallL_mem hs _ m2, Nat.lt_of_le_of_lt (depthL_mem m2) hd, Nat.le_trans (depthL_mem m1) hd2, k⟩
  · show onBls (.lst ((List.range ys.length).map fun i => D.bl (D.same (xs.getD i .non) (ys.getD i .non)))) M _
    rw [onBls_map, ← sameL_all xs ys hl]
    exact q
/-- the end of _law_same: lists, tuples -/
theorem same_tail {n : Nat} {xs ys : List D} {M : MM} {Q : DK} {T : String} (x y : D) (hx : D.pureL xs = true) (hy : D.pureL ys = true) (hs : D.smallL ys = true) (hz : ys.length ≤ 1000000) (hd : D.depthL ys < n) (hd2 : D.depthL xs ≤ 60) (ex : ∀ i Q, dIx x i M Q = ixL xs i M Q) (ey : ∀ i Q, dIx y i M Q = ixL ys i M Q)
    (lx : ∀ Q, lenD x M Q = Q (.int (xs.length : Nat)) M) (ly : ∀ Q, lenD y M Q = Q (.int (ys.length : Nat)) M) (ix : ∀ M Q, isiD x (.ty T) M Q = Q (.bl true) M) (q : Q (.bl (D.sameL xs ys)) M) :
    dAndV (dCB (a2 isiD) (dCons (dVar 0) (dCons (dC (.ty T)) dNil))) (dAndV (dOp dEq (dCB (a1 lenD) (dCons (dVar 0) dNil)) (dCB (a1 lenD) (dCons (dVar 1) dNil))) (dCB allL (dCons (dLc (dRng1 (dCons (dCB (a1 lenD) (dCons (dVar 1) dNil)) dNil)) (dgN 3) dYes (dCall (spSame n) (dCons (dOp dIx (dVar 0) (dVar 3)) (dCons (dOp dIx (dVar 1) (dVar 3)) dNil))) [3]) dNil)))
      [some x, some y, none, none] M Q := by
  refine andV_yes (val_isi rfl ix) ?_
  have le : ∀ Q : DK, Q (.bl (decide ((xs.length : Int) = (ys.length : Int)))) M → dOp dEq (dCB (a1 lenD) (dCons (dVar 0) dNil)) (dCB (a1 lenD) (dCons (dVar 1) dNil)) [some x, some y, none, none] M Q := fun Q q => by
    simp only [dOp, dCB, a1, dCons, dVar, dNil, List.getElem?_cons_zero, List.getElem?_cons_succ, lx, ly, dEq]
    exact q
  by_cases hl : xs.length = ys.length
  · refine andV_yes (fun Q q => le Q (by rw [hl, decide_eq_true rfl]; exact q)) ?_
    simp only [dLc, dRng1, dCB, a1, dCons, dVar, dNil, List.getElem?_cons_zero, List.getElem?_cons_succ, ly]
    refine ⟨by omega, by omega, ?_⟩
    exact same_items hx hy hs hl hz hd hd2 x y ex ey q
  · refine andV_no (fun Q q => le Q (by rw [decide_eq_false (by omega)]; exact q)) ?_
    have e : D.sameL xs ys = false := by
      cases z : D.sameL xs ys with
      | false => rfl
      | true => exact absurd (congrArg List.length ((D.sameL_eq xs ys hy).mp z)) hl
    rw [e] at q
    exact q
theorem b_same {n : Nat} {x y : D} {M : MM} {Q : DK} (px : x.pure = true) (py : y.pure = true) (sy : y.small = true) (hd : y.depth < n + 1) (hd2 : x.depth ≤ 60) (q : Q (.bl (D.same x y)) M) : u__law_same (spSame n) (ends M Q) [some x, some y, none, none] M := by
  have fin : ∀ b, D.same x y = b → Exit M Q (.bl b) M := fun b e => .all (e ▸ q)
  unfold u__law_same
  by_cases hn : y = .non
  · subst hn
    refine if_yes (tst_non rfl rfl) ?_
    walk_at "ev"
    exact fin _ (by cases x <;> simp [D.same, D.isNon])
  refine if_no (tst_non rfl (by cases y <;> first | rfl | exact absurd rfl hn)) ?_
  by_cases hb : y.isBl = true
  · obtain ⟨b, rfl⟩ : ∃ b, y = .bl b := by cases y <;> first | exact ⟨_, rfl⟩ | (simp [D.isBl] at hb)
    refine if_yes (tst_isi rfl fun M Q => by rw [isi_bl py]; rfl) ?_
    by_cases hx : x.isBl = true
    · refine andV_yes (val_isi rfl fun M Q => by rw [isi_bl px, hx]) (val_eq rfl rfl px py hd2 rfl _ (fin _ ?_))
      cases x <;> first | (simp [D.isBl] at hx; done) | simp [D.same, D.eqv]
    · refine andV_no (val_isi rfl fun M Q => by rw [isi_bl px, Bool.eq_false_iff.mpr hx]) (fin _ ?_)
      cases x <;> first | (simp [D.isBl] at hx; done) | simp [D.same]
  have hb' := Bool.eq_false_iff.mpr hb
  refine if_no (tst_isi rfl fun M Q => by rw [isi_bl py, hb']) ?_
  by_cases hi : y.isInt = true
  · obtain ⟨b, rfl⟩ : ∃ b, y = .int b := by cases y <;> first | exact ⟨_, rfl⟩ | (simp [D.isInt, D.isBl] at hi hb)
    refine if_yes (tst_isi rfl fun M Q => by rw [isi_int py]; rfl) ?_
    by_cases hx : x.isInt = true
    · refine andV_yes (val_isi rfl fun M Q => by rw [isi_int px, hx]) ?_
      by_cases hx2 : x.isBl = true
      · refine andV_no (fun Q q => ?_) (fin _ ?_)
        · show dCB (a2 isiD) _ _ _ _
          refine val_isi rfl (fun M Q => by rw [isi_bl px, hx2]) _ ?_
          exact q
        · cases x <;> first | (simp [D.isBl] at hx2; done) | simp [D.same]
      · refine andV_yes (fun Q q => ?_) (val_eq rfl rfl px py hd2 rfl _ (fin _ ?_))
        · show dCB (a2 isiD) _ _ _ _
          refine val_isi rfl (fun M Q => by rw [isi_bl px, Bool.eq_false_iff.mpr hx2]) _ ?_
          exact q
        · cases x <;> first | (simp [D.isInt, D.isBl] at hx hx2; done) | simp [D.same, D.eqv, Bool.beq_eq_decide_eq]
    · refine andV_no (val_isi rfl fun M Q => by rw [isi_int px, Bool.eq_false_iff.mpr hx]) (fin _ ?_)
      cases x <;> first | (simp [D.isInt] at hx; done) | simp [D.same]
  have hi' := Bool.eq_false_iff.mpr hi
  refine if_no (tst_isi rfl fun M Q => by rw [isi_int py, hi']) ?_
  by_cases hs : y.isStr = true
  · obtain ⟨b, rfl⟩ : ∃ b, y = .str b := by cases y <;> first | exact ⟨_, rfl⟩ | (simp [D.isStr] at hs)
    refine if_yes (tst_isi rfl fun M Q => by rw [isi_str py]; rfl) ?_
    by_cases hx : x.isStr = true
    · refine andV_yes (val_isi rfl fun M Q => by rw [isi_str px, hx]) (val_eq rfl rfl px py hd2 rfl _ (fin _ ?_))
      cases x <;> first | (simp [D.isStr] at hx; done) | simp [D.same, D.eqv]
    · refine andV_no (val_isi rfl fun M Q => by rw [isi_str px, Bool.eq_false_iff.mpr hx]) (fin _ ?_)
      cases x <;> first | (simp [D.isStr] at hx; done) | simp [D.same]
  have hs' := Bool.eq_false_iff.mpr hs
  refine if_no (tst_isi rfl fun M Q => by rw [isi_str py, hs']) (if_no (tst_isi rfl fun M Q => isi_dic py) ?_)
  by_cases hl : y.isLst = true
  · obtain ⟨ys, rfl⟩ : ∃ b, y = .lst b := by cases y <;> first | exact ⟨_, rfl⟩ | (simp [D.isLst] at hl)
    refine if_yes (tst_isi rfl fun M Q => by rw [isi_lst py]; rfl) ?_
    by_cases hx : x.isLst = true
    · obtain ⟨xs, rfl⟩ : ∃ b, x = .lst b := by cases x <;> first | exact ⟨_, rfl⟩ | (simp [D.isLst] at hx)
      simp only [D.pure, D.small, D.depth, Bool.and_eq_true, decide_eq_true_eq] at px py sy hd hd2
      exact same_tail (.lst xs) (.lst ys) px py sy.2 sy.1 (by omega) (by omega) (fun _ _ => rfl) (fun _ _ => rfl) (fun _ => rfl) (fun _ => rfl) (fun M Q => by rw [isi_lst (by simpa only [D.pure] using px)]; rfl) (fin _ (by simp [D.same]))
    · refine andV_no (val_isi rfl fun M Q => by rw [isi_lst px, Bool.eq_false_iff.mpr hx]) (fin _ ?_)
      cases x <;> first | (simp [D.isLst] at hx; done) | simp [D.same]
  refine if_no (tst_isi rfl fun M Q => by rw [isi_lst py, Bool.eq_false_iff.mpr hl]) ?_
  obtain ⟨ys, rfl⟩ : ∃ b, y = .tup b := by cases y <;> first | exact ⟨_, rfl⟩ | (simp [D.isLst, D.isStr, D.isInt, D.isBl, D.pure] at hl hs hi hb hn py)
  by_cases hx : x.isTup = true
  · obtain ⟨xs, rfl⟩ : ∃ b, x = .tup b := by cases x <;> first | exact ⟨_, rfl⟩ | (simp [D.isTup] at hx)
    simp only [D.pure, D.small, D.depth, Bool.and_eq_true, decide_eq_true_eq] at px py sy hd hd2
    exact same_tail (.tup xs) (.tup ys) px py sy.2 sy.1 (by omega) (by omega) (fun _ _ => rfl) (fun _ _ => rfl) (fun _ => rfl) (fun _ => rfl) (fun M Q => by rw [isi_tup (by simpa only [D.pure] using px)]; rfl) (fin _ (by simp [D.same]))
  · refine andV_no (val_isi rfl fun M Q => by rw [isi_tup px, Bool.eq_false_iff.mpr hx]) (fin _ ?_)
    cases x <;> first | (simp [D.isTup] at hx; done) | simp [D.same]
/-! what is asked of the four, and that it is kept -/
abbrev st (k : Nat) (ds : List D) : DEnv := ds.map some ++ List.replicate (k - ds.length) none
theorem len__law_draws (ds : List D) (M : MM) (Q : DK) : spDraws ds M Q → ds.length = 1 := fun ⟨_, e, _⟩ => e ▸ rfl
theorem use__law_draws (ds : List D) (M : MM) (Q : DK) : spDraws ds M Q → u__law_draws (ends M Q) (st 6 ds) M := fun ⟨ns, e, q⟩ => by subst e; exact b_draws q
theorem len__law_next (ds : List D) (M : MM) (Q : DK) : spNext ds M Q → ds.length = 2 := fun ⟨_, _, _, e, _⟩ => e ▸ rfl
theorem use__law_next (ds : List D) (M : MM) (Q : DK) : spNext ds M Q → u__law_next (ends M Q) (st 3 ds) M := fun ⟨n, b, mo, e, h1, h2, h3, q⟩ => by subst e; exact b_next h1 h2 h3 q
theorem len__law_same {n : Nat} (ds : List D) (M : MM) (Q : DK) : spSame n ds M Q → ds.length = 2 := fun ⟨_, _, e, _⟩ => e ▸ rfl
theorem none__law_same (ds : List D) (M : MM) (Q : DK) : ¬ spSame 0 ds M Q := fun ⟨_, _, _, _, _, _, h, _⟩ => by omega
theorem use__law_same {n : Nat} (ds : List D) (M : MM) (Q : DK) : spSame (n + 1) ds M Q → u__law_same (spSame n) (ends M Q) (st 4 ds) M := fun ⟨x, y, e, h1, h2, h3, h4, h5, q⟩ => by subst e; exact b_same h1 h2 h3 h4 h5 q
/-- one of the things in xs -/
def spPick : DSp := fun ds M Q => ∃ (n : Nat) (xs : List D) (mo : MO), ds = [.loc n, .lst xs] ∧ M[n]? = some mo ∧ IsDraws mo ∧ 0 < xs.length ∧ ∀ x mo', x ∈ xs → IsDraws mo' → Q x (M.set n mo')
theorem len__law_pick (ds : List D) (M : MM) (Q : DK) : spPick ds M Q → ds.length = 2 := fun ⟨_, _, _, e, _⟩ => e ▸ rfl
theorem use__law_pick (ds : List D) (M : MM) (Q : DK) : spPick ds M Q → u__law_pick spNext (ends M Q) (st 2 ds) M := fun ⟨n, xs, mo, e, h1, h2, h3, q⟩ => by
  subst e
  unfold u__law_pick
  walk_at "ev"
  refine ⟨n, _, mo, rfl, h1, h2, by omega, fun r mo' r0 r1 h => ?_⟩
  obtain ⟨j, rfl⟩ := Int.eq_ofNat_of_zero_le r0
  have jl : j < xs.length := by omega
  walk_at "ev"
  simp only [atI_nat (List.getElem?_eq_getElem jl)]
  exact .all (q _ mo' (List.getElem_mem jl) h)
/-- the same thing twice -/
theorem same_on {n : Nat} {x : D} {M : MM} {Q : DK} (p : x.pure = true) (s : x.small = true) (h : x.depth < n) (h2 : x.depth ≤ 60) (q : Q (.bl true) M) : spSame n [x, x] M Q := ⟨x, x, rfl, p, p, s, h, h2, by rw [D.same_rfl p]; exact q⟩
end PA

/-! Own exceptions in two steps: the base's __init__(self, at, name=..) over ValueError, and such as call it with their name. -/
namespace AX
open PySem PySem.W PySem.Calls PyProof.Rows PySem.HandSPX
/-! ### the texts -/
def baseA (p0 p1 p2 p3 : Pos) : Arguments := { posonlyargs := [], args := [{ arg := "self", annotation := none, pos := p0 }, { arg := "at", annotation := none, pos := p1 }, { arg := "name", annotation := none, pos := p2 }], vararg := none, kwonlyargs := [], kw_defaults := [], kwarg := none, defaults := [.Constant (.str "CarError") 0 p3] }
def baseB (p0 p1 p2 p3 p4 p5 p6 p7 p8 p9 q0 q1 q2 q3 : Pos) : List Stmt :=
  [.Expr (.Call (.Attribute (.Call (.Name "super" p0) [] [] p1) "__init__" p2) [.Name "at" p3] [] p4) p5,
   .Assign [.Attribute (.Name "self" p6) "at" p7] (.Name "at" p8) p9,
   .Assign [.Attribute (.Name "self" q0) "name" q1] (.Name "name" q2) q3]
def baseS : Scope := { kind := .function, names := [(PySem.Str.ofString "self", .local), (PySem.Str.ofString "at", .local), (PySem.Str.ofString "name", .local), (PySem.Str.ofString "__class__", .free), (PySem.Str.ofString "super", .globalImplicit)], isGenerator := false, isCoroutine := false, more := [] }
def subA (p0 p1 : Pos) : Arguments := { posonlyargs := [], args := [{ arg := "self", annotation := none, pos := p0 }, { arg := "at", annotation := none, pos := p1 }], vararg := none, kwonlyargs := [], kw_defaults := [], kwarg := none, defaults := [] }
def subB (nm : Str) (p0 p1 p2 p3 p4 p5 p6 : Pos) : List Stmt := [.Expr (.Call (.Attribute (.Call (.Name "super" p0) [] [] p1) "__init__" p2) [.Name "at" p3, .Constant (.str nm) 0 p4] [] p5) p6]
def subS : Scope := { kind := .function, names := [(PySem.Str.ofString "self", .local), (PySem.Str.ofString "at", .local), (PySem.Str.ofString "__class__", .free), (PySem.Str.ofString "super", .globalImplicit)], isGenerator := false, isCoroutine := false, more := [] }
/-! ### what is read of the heap -/
theorem modKeeps {K : Frag} {mg : Str → Option Value} {h h' : Heap} (M : L2.Mod K mg h) (k : ∀ b o, h.get? b = some o → h'.get? b = some o) : L2.Mod K mg h' := by
  obtain ⟨mb, h1, h2⟩ := M.blt
  exact ⟨M.kin.keeps k, M.glob.keeps k, ⟨mb, h1.keeps k, h2⟩, M.nolimit.keeps k⟩
section
variable {prog : Program} {w : World} {A : Around} {E : Value → Shared → Prop} {K : Frag} {mg : Str → Option Value} {hh : Heap} {g : Array GenState} {d : Drawn} {t : Nat} {os : OsState} {x C D f cc cda L : Addr} {ox : Obj} {odx : Option Obj}
/-- super() in a method of the class at D, its self at x -/
theorem sup_obj {body : List Stmt} {q : Str} {scope : Scope} {p0 p1 : Pos} {attr : Str} {whole : Sem Value} {fd : FuncData} {ar : Arg} {vs : Array Value} {file : Str} {tf : Tok} {oc ccl cl : Value} {od cdd cld : Option Addr} {osl ccs csl : Array (Option Value)} {cdD : ClassData} {m : Str → Option Value} {Q : Value → Shared → Prop}
    (M : L2.Mod K mg hh) (hm : mg "super" = none) (ns : hh.Ns L m) (hf : K.lookup f = some ⟨oc, od, .func fd, osl⟩) (hp : (fd.params.posonlyargs ++ fd.params.args).head? = some ar) (hv : m ar.arg = some (.ref x)) (I : InstAt hh x ox C odx)
    (hcode : K.lookup cda = some ⟨ccl, cdd, .fields vs, ccs⟩) (hvs : vs[2]? = some (.str file tf)) (hfile : ((prog.main.file : Str) == file) = true)
    (hcell : K.lookup cc = some ⟨cl, cld, .cell (some (.ref D)), csl⟩) (hD : clsIn K D = some cdD) (hsub : mroIn K C (.ref D) = some true)
    (hat : (attr == ("__class__" : Str)) = false) (hks : scope.names.lookup ("super" : Str) = some .globalImplicit) (hkc : scope.names.lookup ("__class__" : Str) = some .free) (hka : scope.names.lookup ar.arg = some .local) (hk : scope.kind = .function)
    (htop : (prog.main.scope.names.lookup ("super" : Str)).isSome = false)
    (h : ∀ h', h'.get? hh.objs.size = some (ks_superObj D x C) → (∀ b o, hh.get? b = some o → h'.get? b = some o) → Q (.ref hh.objs.size) ⟨h', g, d, t, os⟩) :
    _root_.PySem.wpAt (model prog w) A (.func body (ksEnv q scope L f (.ref cda) cc)) (attributeBase (.Call (.Name "super" p0) [] [] p1) attr (ksEnv q scope L f (.ref cda) cc) whole) Q E ⟨hh, g, d, t, os⟩ := by
  have X := M.kin
  obtain ⟨mb, b1, b2⟩ := M.blt
  have bs : mb "super" = some (.type "super") := (b2 _ (by decide +kernel)).trans (by first | rfl | decide +kernel)
  obtain ⟨oD, hD1, hD2⟩ : ∃ oD, hh.get? D = some oD ∧ oD.data = .cls cdD := by
    unfold clsIn at hD
    split at hD
    · rename_i c d' cd' sl ho
      cases hD
      exact ⟨_, X _ _ ho, rfl⟩
    · cases hD
  have nc : ∀ c, ox.data ≠ .cls c := fun c e => by
    have z := I.no
    unfold notCls at z
    rw [e] at z
    exact Bool.noConfusion z
  refine ks_wpAt_super_base (env := ksEnv q scope L f (.ref cda) cc) hks hkc hat rfl (X _ _ hf) rfl hp rfl (X _ _ hcode) rfl hvs hfile htop ?_
  refine ks_loadName_global hk hks (loadGlobal_builtin (env := ksEnv q scope L f (.ref cda) cc) M.glob hm b1 bs ⟨rfl, ?_⟩)
  refine wpAny_loadName_free hk hkc rfl ⟨_, X _ _ hcell, rfl⟩ (wpAny_loadName_local hk hka ns hv (ks_wpAny_isType_cls hD1 hD2 ⟨rfl, ?_⟩))
  exact ks_wpAny_call_super hD1 hD2 I.at_ I.cls nc (looks_mroIn X hsub) fun h' e k => h h' e k
/-- ValueError.__init__, bound to a new exception, called -/
theorem mw_call {nm q : Str} {N : Addr} {bs bm : List Value} {hdct : Bool} {sn : List Str} {sub : List Value} {ab : Bool} {col : Option Bool} {dd : Option Addr} {k0 k1 k2 k3 k5 : Option Value} {u e t0 : Addr} {rest : List Value} {Q : Value → Shared → Prop}
    (hC : hh.get? C = some (excClassObj nm q C N bs bm hdct sn sub ab col dd k0 k1 k2 k3 k5 "ValueError.__new__")) (he : hh.get? e = some (excO C t0)) (hu : hh.get? u = some (kxs_mw "ValueError.__init__" e)) (hrest : rest.length ≤ sizeLine)
    (hq : ∀ h' t1, (∀ b o, b ≠ e → hh.get? b = some o → h'.get? b = some o) → h'.get? e = some (excO C t1) → Q .none ⟨h', g, d, t, os⟩) :
    wpAny (model prog w) A (call (.ref u) rest) Q E ⟨hh, g, d, t, os⟩ := by
  have FB := F.excBase_ValueError
  refine wpAny_call (codeAny_of_tree ?_)
  show wpAny _ A.in1 (callAny (.ref u) ⟨rest, []⟩) _ _ _
  unfold callAny
  refine wpAny_bind (wpAny_load hu ?_)
  have mw : (Value.type "method-wrapper" == Value.type "method" || Value.type "method-wrapper" == Value.type "builtin_function_or_method" || Value.type "method-wrapper" == Value.type "method-wrapper") = true := by decide
  simp only [kxs_mw, mw, if_true]
  refine KFB.if_so (by decide) (wpAny_bind (check_bound_init FB.toExcCallFacts hC he rfl (wpAny_bind (wpAny_pure (wpAny_pure ⟨plainId_quiet FB.init.plain _, codeAny_builtin FB.initEntry ?_⟩)))))
  exact exc_init_tree (cls := .ref C) (t0 := t0) (dv := none) (c2 := .none) (c3 := .none) (b4 := .bool false) he hrest fun h' k e' _ => hq h' _ k e'
end
/-- a method's call that stands on one line -/
theorem one_line {o : Expr} {name : Str} {apos pos : Pos} {args : List Expr} {env : Env} (hl : (apos.endLine == pos.line) = true) (hform : methodCallForm (args.length + ([] : List Keyword).length) (backTo pos (starEach args env)) (backToKw pos (keywordEach [] env)) = true) :
    eval (.Call (.Attribute o name apos) args [] pos) env = (do
      let ov ← attributeBase o name env (eval o env)
      standAt apos.atName
      let (f, first) ← holding [ov] (getMethod ov name (do return (← importBound o env).getD true))
      callWith pos f first (backTo pos (starEach args env)) []) := by
  have e1 : eval (.Call (.Attribute o name apos) args [] pos) env = (do
      let ov ← attributeBase o name env (eval o env)
      standAt apos.atName
      methodCall o name apos pos env ov (args.length + ([] : List Keyword).length) (backTo pos (starEach args env)) (backToKw pos (keywordEach [] env))) := rfl
  have e2 : methodCallPos true o env apos pos = pure pos := by
    unfold methodCallPos
    simp [hl]
  rw [e1]
  unfold methodCall
  rw [hform, e2]
  simp only [pure_bind]
  rfl
/-! ### what the written part says -/
/-- the base's own __init__ at f0, its class at D0 -/
structure BaseTxt (prog : Program) (K : Frag) (f0 D0 : Addr) : Prop where
  fn : ∃ (oc : Value) (od : Option Addr) (T : Addr) (oT : Obj) (dv : Value) (n : Nat) (kV doc pm : Value) (an : Option Addr) (cda : Addr) (ct : Value) (osl : Array (Option Value)) (cc : Addr) (a0 a1 a2 a3 p0 p1 p2 p3 p4 p5 p6 p7 p8 p9 q0 q1 q2 q3 : Pos),
    K.lookup f0 = some ⟨oc, od, .func (ksFn "__init__" "CarError.__init__" (baseA a0 a1 a2 a3) (baseB p0 p1 p2 p3 p4 p5 p6 p7 p8 p9 q0 q1 q2 q3) baseS (.ref T) kV doc pm an (.ref cda) ct cc), osl⟩ ∧
      codeIn K (.ref cda) "CarError.__init__" = true ∧ K.lookup T = some oT ∧ oT.data = .seq #[dv] n ∧ (∃ cl cld csl, K.lookup cc = some ⟨cl, cld, .cell (some (.ref D0)), csl⟩) ∧
      ∃ ccl cdd vs ccs file tf, K.lookup cda = some ⟨ccl, cdd, .fields vs, ccs⟩ ∧ vs[2]? = some (.str file tf) ∧ ((prog.main.file : Str) == file) = true ∧ (p2.endLine == p4.line) = true
  cls0 : (clsIn K D0).isSome = true
  ty0 : typeIn K (.ref f0) = some (.type "function")
  top : (prog.main.scope.names.lookup ("super" : Str)).isSome = false
/-- such a class, at C; D0: the base -/
structure ExcC (K : Frag) (C D0 : Addr) : Prop where
  cls : ∃ nm q N bs bm sn sub ab col dd k0 k1 k2 k3 k5, K.lookup C = some (excClassObj nm q C N bs bm true sn sub ab col dd k0 k1 k2 k3 k5 "ValueError.__new__") ∧ refsVE bm = true
  sa : findIn K (.ref C) "__setattr__" = some (some (.builtin "object.__setattr__"))
  noAt : findIn K (.ref C) "at" = some none
  noName : findIn K (.ref C) "name" = some none
  sub0 : mroIn K C (.ref D0) = some true
  isVE : subIn K (.ref C) (.type "ValueError") = some true
  sup0 : ks_superIn K C D0 "__init__" = some (some (.builtin "ValueError.__init__"))
  oth : nsIn K cStatics "thirdparty.any" = some none
  exC : subIn K (.ref C) (.type "BaseException") = some true
  tyC : typeIn K (.ref C) = some (.type "type")
  kC : keepIn K (.ref C) = true
/-- a made exception behind its __init__ -/
structure MadeX (h h' : Heap) (x C dx : Addr) (v u : Value) : Prop where
  keep : ∀ b o, b ≠ x → h.get? b = some o → h'.get? b = some o
  obj : ∃ t1 : Addr, h'.get? x = some { cls := .ref C, dict := some dx, data := .fields #[.ref t1, .none, .none, .none, .bool false, .none] }
  dbig : h.objs.size ≤ dx
  dne : dx ≠ x
  ns : h'.Ns1 dx (fun y => if y = "name" then some u else if y = "at" then some v else none)
theorem looksMro {prog : Program} {w : World} {K : Frag} {h : Heap} {C : Addr} {cd : ClassData} (X : K.In h) (hc : clsIn K C = some cd) : Looks (model prog w) h (mroOf (.ref C)) cd.mro :=
  fun A Q E s k q => wpAny_bind ((looks_clsIn X hc) A _ E s k (wpAny_pure q))
theorem one_le (v : Value) : [v].length ≤ sizeLine := by
  rw [sizeLine_eq]
  exact (by decide : 1 ≤ 16777216)
theorem nsAt {h h' : Heap} {L : Addr} {m : Str → Option Value} (hn : h.Ns L m) (k : ∀ o, h.get? L = some o → h'.get? L = some o) : h'.Ns L m := by
  obtain ⟨o, es, ep, e, r⟩ := hn
  exact ⟨o, es, ep, k _ e, r⟩
section
variable {prog : Program} {w : World} {A : Around} {E : Value → Shared → Prop} {R : Result → Shared → Prop} {s : Shared} {K : Frag} {mg : Str → Option Value} {base : Heap} {C f0 D0 : Addr}
theorem base_init (T : BaseTxt prog K f0 D0) (Z : ExcC K C D0) (M0 : L2.Mod K mg base) (hb : ∀ b o, base.get? b = some o → s.heap.get? b = some o) (hm : mg "super" = none) {x t0 : Addr} {v u : Value} (hx : s.heap.get? x = some (excO C t0)) (hxb : base.get? x = none) (hroom : A.depth < recursionLimit)
    (hq : ∀ h' tk dx, MadeX s.heap h' x C dx v u → R (.ok (.ret .none)) { s with heap := h', toks := tk }) :
    codeAny (model prog w) A (.call (.ref f0) ⟨[.ref x, v, u], []⟩) R s := by
  obtain ⟨oc, od, Td, oT, dv, nd, kV, doc, pm, an, cda, ct, osl, cc, a0, a1, a2, a3, p0, p1, p2, p3, p4, p5, p6, p7, p8, p9, q0, q1, q2, q3, lk, hcd, lT, oTd, ⟨cl, cld, csl, lcc⟩, ccl, cdd, vs, ccs, file, tf, lcd, hvs, hfile, hline⟩ := T.fn
  obtain ⟨nm, q, N, bs, bm, sn, sub, ab, col, dd, k0, k1, k2, k3, k5, hC, hbm⟩ := Z.cls
  have hcl : clsIn K C = some { name := nm, bases := bs, mro := .ref C :: bm, ns := N, qualname := q, hasDict := true, slotNames := sn, subclasses := sub, abstract := ab, collection := col, hasDel := false } := by unfold clsIn; rw [hC] <;> rfl
  obtain ⟨cd0, hcl0⟩ := Option.isSome_iff_exists.mp T.cls0
  obtain ⟨hp, g, d, tk, os⟩ := s
  have M := modKeeps M0 hb
  have xlt := Heap.lt_size hx
  refine ks_codeAny_call_defAt (fd := ksFn "__init__" "CarError.__init__" (baseA a0 a1 a2 a3) (baseB p0 p1 p2 p3 p4 p5 p6 p7 p8 p9 q0 q1 q2 q3) baseS (.ref Td) kV doc pm an (.ref cda) ct cc) (binds := [("self", .ref x), ("at", v), ("name", u)]) hroom (M.kin _ _ lk) rfl M.nolimit (codeRec_of M.kin hcd) rfl
    (L2.BindsTo.of_looks fun M' => L2.looks_items M.kin lT oTd (.of_pure (by first | rfl | with_unfolding_all rfl))) (show ∀ y ∈ baseS.names, y.2 ≠ .cell by decide) (fun y hy => ?_) (fun h1 hns kk => ?_) rfl rfl rfl
  · simp only [List.mem_cons, List.not_mem_nil, or_false] at hy
    rcases hy with e | e | e <;> subst e <;> first | rfl | decide +kernel
  have M1 := modKeeps M kk
  have hx1 := kk _ _ hx
  have I1 : InstAt h1 x (excO C t0) C none := ⟨hx1, rfl, rfl, trivial⟩
  -- super().__init__(at)
  show _root_.PySem.wpAt _ (A.deeper (ksEnv "CarError.__init__" baseS hp.objs.size f0 (.ref cda) cc)) (.func _ (ksEnv "CarError.__init__" baseS hp.objs.size f0 (.ref cda) cc)) (execs _ (ksEnv "CarError.__init__" baseS hp.objs.size f0 (.ref cda) cc)) _ _ _
  unfold baseB
  refine ks_wpAt_execs_cons (ks_wpAt_Expr_any ?_)
  refine ks_wpAt_MethodCall ?_ (one_line hline rfl)
  refine sup_obj M1 hm hns lk rfl (by first | rfl | decide) I1 lcd hvs hfile lcc hcl0 Z.sub0 (by decide) (by first | rfl | decide +kernel) (by first | rfl | decide +kernel) (by first | rfl | decide +kernel) rfl T.top fun h2 hso kk2 => ?_
  have M2 := modKeeps M1 kk2
  have hx2 := kk2 _ _ hx1
  have I2 : InstAt h2 x (excO C t0) C none := ⟨hx2, rfl, rfl, trivial⟩
  have hs0 : alongIn K "__init__" (((Value.ref C :: bm).dropWhile (· != .ref D0)).drop 1) = some (some (.builtin "ValueError.__init__")) := by
    have z := Z.sup0
    unfold ks_superIn at z
    rw [hcl] at z
    exact z
  refine kxs_getMethod kxs_ValueError hso (looks_opaque M2.kin Z.oth) (looksMro M2.kin hcl) rfl M2.kin hs0 (I2.type.andThen (looks_subIn M2.kin Z.isVE)) (ks_ne M2.kin I2 hcl) (by decide) ?_
  have k3 : ∀ b o, h2.get? b = some o → (h2.push (kxs_mw "ValueError.__init__" x)).get? b = some o := fun b o e => Heap.get?_push_of_some _ e
  have hu3 : (h2.push (kxs_mw "ValueError.__init__" x)).get? h2.objs.size = some (kxs_mw "ValueError.__init__" x) := Heap.get?_push_size _ rfl
  have M3 := modKeeps M2 k3
  have ns3 := (hns.keeps kk2).keeps k3
  have C3 := M3.kin _ _ hC
  have hx3 := k3 _ _ hx2
  generalize hg3 : h2.push (kxs_mw "ValueError.__init__" x) = h3 at k3 hu3 M3 ns3 C3 hx3 ⊢
  refine kxs_callWith (i := "ValueError.__init__") (x := x) rfl ?_
  refine evalArgs_plain (spliced_cons (ESX.ldL (v := v) ns3 (by first | rfl | with_unfolding_all rfl | kernel_rfl) (spliced_nil ⟨hu3, ?_⟩) rfl (by first | rfl | with_unfolding_all rfl | kernel_rfl)))
  refine mw_call C3 hx3 hu3 (one_le v) fun h4 t1 k4 hx4 => ?_
  have k03 : ∀ b o, hp.get? b = some o → h3.get? b = some o := fun b o e => k3 b o (kk2 b o (kk b o e))
  have M4 := modKeeps M0 fun b o e => k4 b o (fun z => by rw [z, hxb] at e; cases e) (k03 b o (hb b o e))
  have ns4 := nsAt ns3 fun o e => k4 _ o (Nat.ne_of_gt xlt) e
  -- self.at = at
  refine wpAt_of_wpAny (wpAny_execs_cons (plainObj_wpAny_Assign_Attribute ?_))
  refine ESX.ldL (v := v) ns4 (by first | rfl | with_unfolding_all rfl | kernel_rfl) ?_ rfl (by first | rfl | with_unfolding_all rfl | kernel_rfl)
  refine ESX.ldL (v := .ref x) ns4 (by first | rfl | with_unfolding_all rfl | kernel_rfl) ?_ rfl (by first | rfl | with_unfolding_all rfl | kernel_rfl)
  refine set_plain M4.kin (ox := excO C t1) (od := none) ⟨hx4, rfl, rfl, trivial⟩ Z.sa ?_
  refine exc_osa M4.kin hx4 hcl (show refsVE (.ref C :: bm) = true from hbm) rfl Z.noAt (fun h5 tk5 dx k5 dn dne hx5 hn5 => ?_)
  have k05 : ∀ b o, b ≠ x → hp.get? b = some o → h5.get? b = some o := fun b o n e => k5 b o n (k4 b o n (k03 b o e))
  have M5 := modKeeps M0 fun b o e => k05 b o (fun z => by rw [z, hxb] at e; cases e) (hb b o e)
  have ns5 := nsAt ns4 fun o e => k5 _ o (Nat.ne_of_gt xlt) e
  -- self.name = name
  show wpAny _ _ (execs _ _) _ _ _
  refine wpAny_execs_cons (plainObj_wpAny_Assign_Attribute ?_)
  refine ESX.ldL (v := u) ns5 (by first | rfl | with_unfolding_all rfl | kernel_rfl) ?_ rfl (by first | rfl | with_unfolding_all rfl | kernel_rfl)
  refine ESX.ldL (v := .ref x) ns5 (by first | rfl | with_unfolding_all rfl | kernel_rfl) ?_ rfl (by first | rfl | with_unfolding_all rfl | kernel_rfl)
  have hw : Within (fun y => if y = ("at" : Str) then some v else none) ["at"] := Within.cons "at" v Within.nil
  obtain ⟨oD, _, _, hoD, _, _⟩ := hn5.count hw
  refine set_plain M5.kin (ox := { cls := .ref C, dict := some dx, data := .fields #[.ref t1, .none, .none, .none, .bool false, .none] }) (od := some oD) ⟨hx5, rfl, rfl, hoD⟩ Z.sa ?_
  refine PySem.OEX.osa_old M5.kin hx5 hn5 hw (by decide) hcl (show refsVE (.ref C :: bm) = true from hbm) rfl Z.noName fun h6 tk6 k6 hn6 => ?_
  show wpAny _ _ (execs _ _) _ _ _
  have big : hp.objs.size ≤ dx := Nat.le_trans (Nat.le_of_lt (show hp.objs.size < h4.objs.size from ns4.lt)) dn
  exact wpAny_execs_nil (hq h6 tk6 dx ⟨fun b o n e => k6 b o (Nat.ne_of_lt (Nat.lt_of_lt_of_le (Heap.lt_size e) big)) (k05 b o n e), ⟨t1, k6 _ _ (Ne.symm dne) hx5⟩, big, dne, hn6⟩)
/-- such a class's own __init__, at fI: it calls the base's with the class's name -/
structure SubTxt (prog : Program) (K : Frag) (C f0 fI : Addr) (nm : Str) : Prop where
  fn : ∃ (oc : Value) (od : Option Addr) (kV doc pm : Value) (an : Option Addr) (cda : Addr) (ct : Value) (osl : Array (Option Value)) (cc : Addr) (qual : Str) (a0 a1 p0 p1 p2 p3 p4 p5 p6 : Pos),
    K.lookup fI = some ⟨oc, od, .func (ksFn "__init__" qual (subA a0 a1) (subB nm p0 p1 p2 p3 p4 p5 p6) subS .none kV doc pm an (.ref cda) ct cc), osl⟩ ∧
      codeIn K (.ref cda) qual = true ∧ (∃ cl cld csl, K.lookup cc = some ⟨cl, cld, .cell (some (.ref C)), csl⟩) ∧
      ∃ ccl cdd vs ccs file tf, K.lookup cda = some ⟨ccl, cdd, .fields vs, ccs⟩ ∧ vs[2]? = some (.str file tf) ∧ ((prog.main.file : Str) == file) = true ∧ (p2.endLine == p5.line) = true
  iC : findIn K (.ref C) "__init__" = some (some (.ref fI))
  tI : typeIn K (.ref fI) = some (.type "function")
  subC : mroIn K C (.ref C) = some true
  supI : ks_superIn K C C "__init__" = some (some (.ref f0))
theorem sub_init (T : BaseTxt prog K f0 D0) (Z : ExcC K C D0) {fI : Addr} {nm : Str} (S : SubTxt prog K C f0 fI nm) (M0 : L2.Mod K mg base) (hb : ∀ b o, base.get? b = some o → s.heap.get? b = some o) (hm : mg "super" = none) {x t0 : Addr} {v : Value} (hx : s.heap.get? x = some (excO C t0)) (hxb : base.get? x = none) (hroom : A.depth + 1 < recursionLimit)
    (hq : ∀ h' tk dx u tk', u = .str nm tk' → MadeX s.heap h' x C dx v u → R (.ok (.ret .none)) { s with heap := h', toks := tk }) :
    codeAny (model prog w) A (.call (.ref fI) ⟨[.ref x, v], []⟩) R s := by
  obtain ⟨oc, od, kV, doc, pm, an, cda, ct, osl, cc, qual, a0, a1, p0, p1, p2, p3, p4, p5, p6, lk, hcd, ⟨cl, cld, csl, lcc⟩, ccl, cdd, vs, ccs, file, tf, lcd, hvs, hfile, hline⟩ := S.fn
  obtain ⟨_, _, _, _, _, _, _, _, _, _, _, _, _, _, _, _, _, _, _, _, _, _, _, _, _, _, _, _, _, _, _, _, lk0, _⟩ := T.fn
  obtain ⟨nm', q, N, bs, bm, sn, sub, ab, col, dd, k0, k1, k2, k3, k5, hC, hbm⟩ := Z.cls
  have hcl : clsIn K C = some { name := nm', bases := bs, mro := .ref C :: bm, ns := N, qualname := q, hasDict := true, slotNames := sn, subclasses := sub, abstract := ab, collection := col, hasDel := false } := by unfold clsIn; rw [hC] <;> rfl
  obtain ⟨hp, g, d, tk, os⟩ := s
  have M := modKeeps M0 hb
  have xlt := Heap.lt_size hx
  refine ks_codeAny_call_defAt (fd := ksFn "__init__" qual (subA a0 a1) (subB nm p0 p1 p2 p3 p4 p5 p6) subS .none kV doc pm an (.ref cda) ct cc) (binds := [("self", .ref x), ("at", v)]) (by omega) (M.kin _ _ lk) rfl M.nolimit (codeRec_of M.kin hcd) rfl
    (.of_eq (by first | rfl | with_unfolding_all rfl)) (show ∀ y ∈ subS.names, y.2 ≠ .cell by decide) (fun y hy => ?_) (fun h1 hns kk => ?_) rfl rfl rfl
  · simp only [List.mem_cons, List.not_mem_nil, or_false] at hy
    rcases hy with e | e <;> subst e <;> first | rfl | decide +kernel
  have M1 := modKeeps M kk
  have hx1 := kk _ _ hx
  have I1 : InstAt h1 x (excO C t0) C none := ⟨hx1, rfl, rfl, trivial⟩
  show _root_.PySem.wpAt _ (A.deeper (ksEnv qual subS hp.objs.size fI (.ref cda) cc)) (.func _ (ksEnv qual subS hp.objs.size fI (.ref cda) cc)) (execs _ (ksEnv qual subS hp.objs.size fI (.ref cda) cc)) _ _ _
  unfold subB
  refine ks_wpAt_execs_cons (ks_wpAt_Expr_any ?_)
  refine ks_wpAt_MethodCall ?_ (one_line hline rfl)
  refine sup_obj M1 hm hns lk rfl (by first | rfl | decide) I1 lcd hvs hfile lcc hcl S.subC (by decide) (by first | rfl | decide +kernel) (by first | rfl | decide +kernel) (by first | rfl | decide +kernel) rfl T.top fun h2 hso kk2 => ?_
  have M2 := modKeeps M1 kk2
  have hx2 := kk2 _ _ hx1
  have I2 : InstAt h2 x (excO C t0) C none := ⟨hx2, rfl, rfl, trivial⟩
  have hs0 : alongIn K "__init__" (((Value.ref C :: bm).dropWhile (· != .ref C)).drop 1) = some (some (.ref f0)) := by
    have z := S.supI
    unfold ks_superIn at z
    rw [hcl] at z
    exact z
  have f2 := M2.kin _ _ lk0
  have ty := T.ty0
  have hfc : ∀ {of : Obj}, K.lookup f0 = some of → of.cls = .type "function" := fun {of} e => by
    have z : (K.lookup f0).map (·.cls) = some (.type "function") := ty
    rw [e] at z
    exact Option.some.inj z
  have hfn : fnIn K f0 = true := by
    unfold fnIn
    rw [lk0] <;> rfl
  refine ks_wpAny_getMethod_super hso (looks_opaque M2.kin Z.oth) (looksMro M2.kin hcl) rfl M2.kin hs0 f2 (hfc lk0) (ks_ne M2.kin I2 hcl) (by decide) ?_
  have k3 : ∀ b o, h2.get? b = some o → (h2.push (methodObj (.ref f0) (.ref x))).get? b = some o := fun b o e => Heap.get?_push_of_some _ e
  have hu3 : (h2.push (methodObj (.ref f0) (.ref x))).get? h2.objs.size = some (methodObj (.ref f0) (.ref x)) := Heap.get?_push_size _ rfl
  have M3 := modKeeps M2 k3
  have ns3 := (hns.keeps kk2).keeps k3
  have hx3 := k3 _ _ hx2
  show wpAny _ _ (callWith _ (Value.ref h2.objs.size) [] _ []) _ _ ⟨h2.push (methodObj (.ref f0) (.ref x)), _, _, _, _⟩
  generalize hg3 : h2.push (methodObj (.ref f0) (.ref x)) = h3 at k3 hu3 M3 ns3 hx3 ⊢
  refine callWith_of rfl (keeps_M (K := K) (q := h2.objs.size) (f := f0) (self := .ref x) hfn) ?_
  refine evalArgs_plain (spliced_cons (ESX.ldL (v := v) ns3 (by first | rfl | with_unfolding_all rfl | kernel_rfl) (spliced_cons (wpAny_Constant_str (k := 0) (pos := p4) (spliced_nil ⟨⟨hu3, M3.kin⟩, ?_⟩))) rfl (by first | rfl | with_unfolding_all rfl | kernel_rfl)))
  have k03 : ∀ b o, hp.get? b = some o → h3.get? b = some o := fun b o e => k3 b o (kk2 b o (kk b o e))
  refine wpAny_call (ks_codeAny_call_bound hu3 (base_init T Z M0 (fun b o e => k03 b o (hb b o e)) hm hx3 hxb (show A.depth + 1 < recursionLimit from hroom) fun h' tk' dx X' => ?_))
  show _root_.PySem.wpAt _ _ _ (execs _ _) _ _ _
  have l3 : hp.objs.size < h3.objs.size := ns3.lt
  exact wpAt_of_wpAny (wpAny_execs_nil (hq h' tk' dx _ _ rfl ⟨fun b o n e => X'.keep b o n (k03 b o e), X'.obj, Nat.le_trans (Nat.le_of_lt l3) X'.dbig, X'.dne, X'.ns⟩))
/-- C(v): a new exception, not raised yet -/
structure OwnX (h h' : Heap) (e C dx : Addr) (v u : Value) : Prop where
  keep : ∀ b o, h.get? b = some o → h'.get? b = some o
  new : h.objs.size ≤ e
  obj : ∃ t1 : Addr, h'.get? e = some { cls := .ref C, dict := some dx, data := .fields #[.ref t1, .none, .none, .none, .bool false, .none] }
  dbig : h.objs.size ≤ dx
  dne : dx ≠ e
  ns : h'.Ns1 dx (fun y => if y = "name" then some u else if y = "at" then some v else none)
theorem sub_made (T : BaseTxt prog K f0 D0) (Z : ExcC K C D0) {fI : Addr} {nm : Str} (S : SubTxt prog K C f0 fI nm) (M0 : L2.Mod K mg base) (hb : ∀ b o, base.get? b = some o → s.heap.get? b = some o) (hm : mg "super" = none) {v : Value} (hroom : A.depth + 2 < recursionLimit)
    (hq : ∀ h' tk e dx u tk', u = .str nm tk' → OwnX s.heap h' e C dx v u → R (.ok (.ret (.ref e))) { s with heap := h', toks := tk }) :
    codeAny (model prog w) A (.call (.ref C) ⟨[v], []⟩) R s := by
  have M := modKeeps M0 hb
  obtain ⟨nm', q, N, bs, bm, sn, sub, ab, col, dd, k0, k1, k2, k3, k5, hC, hbm⟩ := Z.cls
  obtain ⟨hp, g, d, tk, os⟩ := s
  have kk : ∀ b o, hp.get? b = some o → ((hp.push (kdv_tup [v])).push (excO C hp.objs.size)).get? b = some o := fun b o e => Heap.get?_push_of_some _ (Heap.get?_push_of_some _ e)
  have he : ((hp.push (kdv_tup [v])).push (excO C hp.objs.size)).get? (hp.objs.size + 1) = some (excO C hp.objs.size) := by heap_get
  have hxb : base.get? (hp.objs.size + 1) = none := by
    cases e : base.get? (hp.objs.size + 1) with
    | none => rfl
    | some o => exact absurd (Heap.lt_size (hb _ _ e)) (by show ¬ hp.objs.size + 1 < hp.objs.size; omega)
  refine call_own F.excBase_ValueError (fun Y => refsVE_contains Y bm hbm) (M.kin _ _ hC) (looks_findIn M.kin S.iC) (fun self => bind_fn M.kin self S.tI) (one_le v) ?_
  refine sub_init (s := ⟨(hp.push (kdv_tup [v])).push (excO C hp.objs.size), g, d, tk, os⟩) T Z S M0 (fun b o e => kk b o (hb b o e)) hm he hxb (show A.depth + 1 + 1 < recursionLimit from hroom) fun h' tk' dx u tk2 eu X' => ?_
  have l2 : hp.objs.size ≤ ((hp.push (kdv_tup [v])).push (excO C hp.objs.size)).objs.size := by
    rw [Heap.size_push, Heap.size_push]
    omega
  exact ⟨rfl, hq h' tk' (hp.objs.size + 1) dx u tk2 eu ⟨fun b o e => X'.keep b o (Nat.ne_of_lt (Nat.lt_succ_of_lt (Heap.lt_size e))) (kk b o e), Nat.le_succ _, X'.obj, Nat.le_trans l2 X'.dbig, X'.dne, X'.ns⟩⟩
end
end AX

/-! Exceptions over the plain data: raise, calls that raise, try. -/
namespace AX
open PySem PySem.Spec PyProof.Rows L2
/-- what is wanted of an exception: its class's name, what it tells -/
abbrev DX := Str → D → MM → Prop
abbrev DWX := DEnv → Str → D → MM → Prop
abbrev DSpX := List D → MM → DK → DX → Prop
/-- an exception in the air: its class (its name of the module is nm), its dict -/
structure RelX (K : PySem.W.Frag) (mg : Str → Option Value) (g : G) (cls : Value) (d : Option Addr) (nm : Str) (at_ : D) : Prop where
  ex : ∃ (C dd : Addr) (fs : List (Str × V)) (v : V), cls = .ref C ∧ mg nm = some (.ref C) ∧ d = some dd ∧ g.F dd = some (.xd fs) ∧ List.lookup ("at" : Str) fs = some v ∧ RelD K g at_ v ∧ List.lookup ("name" : Str) fs = some (V.str nm) ∧
    XfC K C ∧ PySem.W.findIn K (.ref C) "at" = some none ∧ PySem.W.findIn K (.ref C) "name" = some none
theorem RelX.mono {K : PySem.W.Frag} {mg : Str → Option Value} {g g' : G} {cls : Value} {d : Option Addr} {nm : Str} {at_ : D} (r : RelX K mg g cls d nm at_) (x : Gr g g') : RelX K mg g' cls d nm at_ := by
  obtain ⟨C, dd, fs, v, h1, h2, h3, h4, h5, h6, h7⟩ := r.ex
  exact ⟨C, dd, fs, v, h1, h2, h3, x.f _ _ h4, h5, h6.mono x, h7⟩
theorem RelX.cut {K : PySem.W.Frag} {mg : Str → Option Value} {g : G} {cls : Value} {d : Option Addr} {nm : Str} {at_ : D} {k : Nat} (r : RelX K mg g cls d nm at_) (h : at_.under k = true) : RelX K mg ⟨g.F, g.as.take k⟩ cls d nm at_ := by
  obtain ⟨C, dd, fs, v, h1, h2, h3, h4, h5, h6, h7⟩ := r.ex
  exact ⟨C, dd, fs, v, h1, h2, h3, h4, h5, RelD.cut (F := g.F) (as := g.as) h6 h, h7⟩
/-- W is kept where wd is -/
def WRel (K : KB) (mg : Str → Option Value) (W : WX) (wd : DWX) : Prop := ∀ g H σ ds M cls d nm at_, RelM K g H M → RelS K g σ ds → RelX K mg g cls d nm at_ → wd ds nm at_ M → W cls d σ H
structure Flies (X : CB) (wd : DWX) : Prop where
  ex : ∃ W : WX, Takes X.X W ∧ WRel X.K X.mg W wd
/-- nothing flies -/
abbrev wd0 : DWX := fun _ _ _ _ => False
theorem flies0 {X : CB} : Flies X wd0 := ⟨_, takes0, fun _ _ _ _ _ _ _ _ _ _ _ _ z => z⟩
abbrev PostX (K : KB) (mg : Str → Option Value) (g : G) (H : Hp) (Ed : DX) (E : XK) : Prop := ∀ g' H' M' cls d nm at_, Gx g H g' H' → RelM K g' H' M' → RelX K mg g' cls d nm at_ → Ed nm at_ M' → E cls d H'
def liftSpX (K : PySem.W.Frag) (mg : Str → Option Value) (sp : DSpX) : Sp := fun vs H Q E => ∃ g M ds Qd Ed, RelM ⟨K, g, H⟩ g H M ∧ RelL K g ds vs ∧ sp ds M Qd Ed ∧ PostE ⟨K, g, H⟩ g H Qd Q ∧ PostX ⟨K, g, H⟩ mg g H Ed E
def dCallX (sp : DSpX) (wd : DWX) (ua : DA) : DE := fun ds M Q => ua ds M fun xs M1 => sp xs M1 Q (wd ds)
theorem le_callX {K : KB} {mg : Str → Option Value} {t : TA} {ua : DA} {sp : DSpX} {wd : DWX} {W : WX} (l : LA K t ua) (hW : WRel K mg W wd) : LE K (tCallS (liftSpX K.k mg sp) (WE W) t) (dCallX sp wd ua) := fun g H σ ds M r s Q q R k =>
  l g H σ ds M r s _ q _ fun g1 H1 M1 xs vs x r1 rd q1 =>
    ⟨g1, M1, xs, Q, wd ds, r1.start, rd, q1, PostE.base r1 x k, fun g' H' M' cls d nm at_ y r' rx e => hW g' H' σ ds M' cls d nm at_ (r'.base rfl (r1.up.trans y)) ((s.mono x.gr).mono y.gr) rx e⟩
structure KnownX (P : Program) (w : World) (K : PySem.W.Frag) (mg : Str → Option Value) (base : Heap) (k : Nat) (x : Str) (ps : List Str) (sp : DSpX) : Prop where
  ex : ∃ f fd, FnOk P w K mg base (L2.CX P w) k f fd ps (liftSpX K mg sp) ∧ mg x = some (.ref f) ∧ PySem.W.keepIn K (.ref f) = true ∧ Binds K fd ps []
section
variable {X : CB} {k : Nat} {f : Addr} {fd : FuncData} {ps : List Str} {sp : DSpX} {x : Str} {p pos : Pos} {e : Expr} {es : List Expr} {ua : DA} {wd : DWX}
theorem xcallX (G : KnownX X.prog X.w X.X.K X.mg X.base k x ps sp) (hr : Room k X.A) (hF : Flies X wd) (ha : XA X (e :: es) ua) (hg : Gl X x := by rfl) (hd : (x == ("__debug__" : Str)) = false := by decide)
    (he : starEach (e :: es) X.env = (false, eval e X.env) :: starEach es X.env := by rfl) (hpl : (backTo pos (starEach es X.env)).any (·.1) = false := by rfl) : XE X (.Call (.Name x p) (e :: es) [] pos) (dCallX sp wd ua) := by
  obtain ⟨f, fd, F, hm, hk, hb⟩ := G.ex
  obtain ⟨t, pa, l⟩ := ha.ex
  obtain ⟨W, tk, hW⟩ := hF.ex
  exact ⟨_, pe_callS F hr hg hm hk hb (passAt tk) pa hd he hpl, le_callX l hW⟩
theorem KnownX.mono {P : Program} {w : World} {K : PySem.W.Frag} {mg : Str → Option Value} {base : Heap} {j : Nat} (G : KnownX P w K mg base j x ps sp) (h : j ≤ k) : KnownX P w K mg base k x ps sp := by
  obtain ⟨f, fd, F, hm, hk, hb⟩ := G.ex
  exact ⟨f, fd, F.mono h, hm, hk, hb⟩
end
/-! ### raise C(e) -/
/-- the class named nm: what the written part says of it -/
structure Err (prog : Program) (K : PySem.W.Frag) (mg : Str → Option Value) (nm : Str) : Prop where
  ex : ∃ C f0 D0 fI : Addr, mg nm = some (.ref C) ∧ BaseTxt prog K f0 D0 ∧ ExcC K C D0 ∧ SubTxt prog K C f0 fI nm ∧ XfC K C
  sup : mg "super" = none
def tMkSub (C : Addr) (nm : Str) (ta : TA) : L2.St → Hp → XK → Prop := fun σ H Q => ta σ H fun vs H1 => ∃ v, vs = [v] ∧ ∀ d, H1 d = none → Q (.ref C) (some d) (upd H1 d (.xd [(("name" : Str), V.str nm), (("at" : Str), v)]))
theorem relO_sub {v : V} {v' : Value} {nm : Str} {tk : Tok} (r : RelV v v') (f : Str) : RelO (List.lookup f [(("name" : Str), V.str nm), (("at" : Str), v)]) (if f = "name" then some (.str nm tk) else if f = "at" then some v' else none) := by
  by_cases h1 : f = "name"
  · subst h1
    rw [if_pos rfl]
    have q : List.lookup ("name" : Str) [(("name" : Str), V.str nm), (("at" : Str), v)] = some (V.str nm) := by simp [List.lookup]
    rw [q]
    exact ⟨tk, rfl⟩
  · rw [if_neg h1]
    have n1 : (f == ("name" : Str)) = false := by simpa using h1
    by_cases h2 : f = "at"
    · subst h2
      rw [if_pos rfl]
      have q : List.lookup ("at" : Str) [(("name" : Str), V.str nm), (("at" : Str), v)] = some v := by simp [List.lookup, n1]
      rw [q]
      exact r
    · rw [if_neg h2]
      have n2 : (f == ("at" : Str)) = false := by simpa using h2
      have q : List.lookup f [(("name" : Str), V.str nm), (("at" : Str), v)] = none := by simp [List.lookup, n1, n2]
      rw [q]
      trivial
theorem pmk_sub {X : Cx} {C f0 D0 fI : Addr} {nm : Str} {e : Expr} {ta : TA} {p pos : Pos} {k : Nat} (T : BaseTxt X.prog X.K f0 D0) (Z : ExcC X.K C D0) (S : SubTxt X.prog X.K C f0 fI nm) (gC : X.mg nm = some (.ref C)) (hm : X.mg "super" = none) (hr : Room (k + 3) X.A) (ha : PA X [e] ta) (hg : Gl X nm) (hdb : (nm == ("__debug__" : Str)) = false)
    (he : starEach [e] X.env = (false, eval e X.env) :: starEach [] X.env := by rfl) (hpl : (backTo pos (starEach [] X.env)).any (·.1) = false := by rfl) :
    PMk X (.Call (.Name nm p) [e] [] pos) (tMkSub C nm ta) := by
  intro pins s σ H Q I h
  refine wpAny_Call_Name_kw (ld_glob I hg gC ?_ hdb)
  refine PySem.W.callWith_K (h₀ := X.base) I.ok.mod.kin Z.kC (thn (ha.run pos pins s σ H _ I h) fun us s1 hh => ?_) he hpl
  obtain ⟨vs, H1, I1, r1, v, ev, q1⟩ := hh
  subst ev
  refine ⟨I1.kIn, ?_⟩
  cases r1 with
  | cons rv rn =>
    rename_i v' us'
    cases rn
    show wpAny _ _ (call (.ref C) [v']) _ _ _
    obtain ⟨hp, g, dr, tk, os⟩ := s1
    refine wpAny_call (sub_made T Z S I1.ok.mod I1.bk hm (by have := hr.dp; omega) fun h' tk' a d u tk2 eu M => ?_)
    subst eu
    show MkP X pins σ Q (.ref a) ⟨h', g, dr, tk', os⟩
    obtain ⟨t1, hoe⟩ := M.obj
    obtain ⟨G', g1, g2⟩ := restrict h' fun b => decide (b ≠ a)
    have gk : ∀ b, b ≠ a → G'.get? b = h'.get? b := fun b hb => g1 b (decide_eq_true hb)
    have ge : G'.get? a = none := g2 a (by simp)
    have old : ∀ b o, hp.get? b = some o → G'.get? b = some o := fun b o q => (gk b (Nat.ne_of_lt (Nat.lt_of_lt_of_le (Heap.lt_size q) M.new))).trans (M.keep b o q)
    have ob : ObjOk X.prog X.w (upd H1 d (.xd [(("name" : Str), V.str nm), (("at" : Str), v)])) G' d (.xd [(("name" : Str), V.str nm), (("at" : Str), v)]) :=
      ⟨_, M.ns.at (fun o q => (gk d M.dne).trans q), fun f => relO_sub rv f⟩
    have J : Inv X pins σ (upd H1 d (.xd [(("name" : Str), V.str nm), (("at" : Str), v)])) ⟨G', g, dr, tk', os⟩ := I1.laid (t' := tk') old M.dbig ob
    refine ⟨a, _, _, ⟨G', g, dr, tk', os⟩, _, .ref C, some d, rfl, J, fun b o q => ?_, ge, hoe, ⟨rfl, rfl⟩, rfl, rfl, ?_, rfl, I1.bare, raises_own Z.exC Z.tyC, q1 d (I1.hok.fresh M.dbig)⟩
    · by_cases hb : b = a
      · have q' : G'.get? b = some o := q
        rw [hb, ge] at q'
        cases q'
      · exact (gk b hb).symm.trans q
    · rw [upd_ne (Ne.symm M.dne)]
      exact I1.hok.fresh M.new
/-- raise C(e) -/
def dRaise (nm : Str) (wd : DWX) (ue : DE) : DS := fun _ ds M => ue ds M fun x M1 => wd ds nm x M1
theorem s_raise {X : CB} {nm : Str} {e : Expr} {ue : DE} {wd : DWX} {p pos pos2 : Pos} {k : Nat} (hc : X.calm = true) (T : Err X.prog X.X.K X.mg nm) (hr : Room (k + 3) X.A) (hF : Flies X wd) (h : XE X e ue) (hg : Gl X nm := by rfl) (hdb : (nm == ("__debug__" : Str)) = false := by decide)
    (he : starEach [e] X.env = (false, eval e X.env) :: starEach [] X.env := by rfl) (hpl : (backTo pos (starEach [] X.env)).any (·.1) = false := by rfl) : XS X (.Raise (some (.Call (.Name nm p) [e] [] pos)) none pos2) (dRaise nm wd ue) := by
  obtain ⟨C, f0, D0, fI, gC, B, Z, S, xf⟩ := T.ex
  obtain ⟨t, pe, l⟩ := h.ex
  obtain ⟨W, tk, hW⟩ := hF.ex
  refine ⟨_, ps_raise hc tk (pmk_sub B Z S gC T.sup hr (pa_cons pe pa_nil he) hg hdb he hpl), fun g H σ ds M r s DD q D k => ?_⟩
  refine l g H σ ds M r s _ q _ fun g1 H1 M1 x v y r1 rd q1 => ?_
  refine ⟨v, rfl, fun d hd => ?_⟩
  obtain ⟨y2, r2⟩ := r1.grow (o := .xd [(("name" : Str), V.str nm), (("at" : Str), v)]) hd
  refine hW _ _ σ ds M1 _ _ nm x r2 ((s.mono y.gr).mono y2.gr) ⟨C, d, _, v, rfl, gC, rfl, upd_same, ?_, rd.mono y2, ?_, xf, Z.noAt, Z.noName⟩ q1
  · have n1 : (("at" : Str) == ("name" : Str)) = false := by decide +kernel
    simp [List.lookup, n1]
  · simp [List.lookup]
/-! ### a def that may raise -/
def ExitX (M0 : MM) (E : DX) : DX := fun nm d M' => E nm d M' ∨ ∃ k, M0.length ≤ k ∧ d.under k = true ∧ (∀ (n : Nat) (mo : MO), n < k → M'[n]? = some mo → mo.under k = true ∨ M0[n]? = some mo) ∧ E nm d (M'.take k)
theorem ExitX.keep {M0 : MM} {E : DX} {nm : Str} {d : D} (L : MM) (hd : d.pure = true) (q : E nm d M0) : ExitX M0 E nm d (M0 ++ L) :=
  .inr ⟨M0.length, Nat.le_refl _, D.pure_under hd, fun n mo hn e => .inr (by rw [List.getElem?_append_left hn] at e; exact e), by rw [List.take_left]; exact q⟩
theorem ExitX.all {M0 : MM} {E : DX} {nm : Str} {d : D} {M : MM} (q : E nm d M) : ExitX M0 E nm d M := .inl q
theorem exit_okX {K : PySem.W.Frag} {mg : Str → Option Value} {g g' : G} {H H' : Hp} {M0 M' : MM} {Ed : DX} {E : XK} {cls : Value} {dd : Option Addr} {nm : Str} {d : D} (r0 : RelM ⟨K, g, H⟩ g H M0) (x : Gx g H g' H') (r : RelM ⟨K, g, H⟩ g' H' M') (rx : RelX K mg g' cls dd nm d) (q : ExitX M0 Ed nm d M') (k : PostX ⟨K, g, H⟩ mg g H Ed E) : E cls dd H' := by
  rcases q with q | ⟨n, hn, ud, um, q⟩
  · exact k g' H' M' cls dd nm d x r rx q
  · obtain ⟨x', r', _⟩ := exit_cut (d := .non) r0 x r .non hn (by simp [D.under]) um
    exact k _ H' _ cls dd nm d x' r' (rx.cut ud) q
theorem fn_okX {P : Program} {w : World} {K : PySem.W.Frag} {mg : Str → Option Value} {base : Heap} {x qual : Str} {st : Stmt} {f : Addr} {fd : FuncData} {N ps : List Str} {k : Nat} {sp : DSpX} {u : DWX → DS} (F : Fun K x qual st f fd) (S : FnScope N ps (defScope st)) (len : ∀ ds M Q E, sp ds M Q E → ds.length = ps.length)
    (hbody : ∀ (cdv : Value) (A : Around) (outer : List Env) (s : Shared) (H : Hp) (E : XK) (g0 : G) (H0 : Hp) (wd : DWX), Room k (A.deeper (envOfC qual (defScope st) s.heap.objs.size f cdv)) → Flies ⟨cxOf (L2.CX P w) P w K mg base N qual (defScope st) f cdv A outer s H E, g0, H0⟩ wd →
      PassesOwn (model P w) (A.deeper (envOfC qual (defScope st) s.heap.objs.size f cdv)) (cxOf (L2.CX P w) P w K mg base N qual (defScope st) f cdv A outer s H E).env (cxOf (L2.CX P w) P w K mg base N qual (defScope st) f cdv A outer s H E).xe →
      XSs ⟨cxOf (L2.CX P w) P w K mg base N qual (defScope st) f cdv A outer s H E, g0, H0⟩ (defBody st) (u wd))
    (use : ∀ ds M Q E, sp ds M Q E → u (fun _ nm d M' => ExitX M E nm d M') { nx := fun _ M' => Exit M Q .non M', rt := Exit M Q } (startD N ds) M) : FnOk P w K mg base (L2.CX P w) (k + 1) f fd ps (liftSpX K mg sp) := by
  refine F.okX S (fun vs H Q E h => ?_) (fun cdv A outer s H vs Q E hr h => ?_)
  · obtain ⟨g, M, ds, Qd, Ed, r, rl, q, _⟩ := h
    rw [← rl.len]
    exact len _ _ _ _ q
  · obtain ⟨g, M, ds, Qd, Ed, r, rl, q, kk, kx⟩ := h
    have tk : Takes (cxOf (L2.CX P w) P w K mg base N qual (defScope st) f cdv A outer s H E) (fun cls d _ H' => E cls d H') := takes_of rfl rfl rfl rfl
    have fl : Flies ⟨cxOf (L2.CX P w) P w K mg base N qual (defScope st) f cdv A outer s H E, g, H⟩ (fun _ nm d M' => ExitX M Ed nm d M') :=
      ⟨_, tk, fun g' H' σ' ds' M' cls d nm at_ r' s' rx e => exit_okX r r'.up r' rx e kx⟩
    obtain ⟨t, p, l⟩ := (hbody cdv A outer s H E g H _ hr fl (passes_of rfl)).ex
    refine ⟨t, p, l g H _ _ M r (relS_start rl) _ (use ds M Qd Ed q) _ ⟨fun g' H' σ' ds' M' y r' s' q' => ?_, fun g' H' M' d v y r' rd q' => ?_, fun g' H' σ' ds' M' y r' s' q' => q'.elim, fun g' H' σ' ds' M' y r' s' q' => q'.elim⟩⟩
    · exact exit_ok r y r' .non q' kk
    · exact exit_ok r y r' rd q' kk
theorem knownX_mk {P : Program} {w : World} {K : PySem.W.Frag} {mg : Str → Option Value} {base : Heap} {x qual : Str} {st : Stmt} {f : Addr} {fd : FuncData} {ps : List Str} {k : Nat} {sp : DSpX} (F : Fun K x qual st f fd) (ok : FnOk P w K mg base (L2.CX P w) k f fd ps (liftSpX K mg sp)) (hm : mg x = some (.ref f)) (hb : Binds K fd ps []) : KnownX P w K mg base k x ps sp := ⟨f, fd, ok, hm, F.kp, hb⟩
/-! ### try: .. except C as n: .. -/
theorem PostN.base {K : KB} {g g1 : G} {H H1 : Hp} {M1 : MM} {P : DEnv → MM → Prop} {R : L2.St → Hp → Prop} (r1 : RelM K g1 H1 M1) (x : Gx g H g1 H1) (k : PostN K g H P R) : PostN ⟨K.k, g1, H1⟩ g1 H1 P R :=
  fun g' H' σ' ds' M' y r' s' q => k g' H' σ' ds' M' (x.trans y) (r'.base rfl (r1.up.trans y)) s' q
theorem LEnds.base {K : KB} {g g1 : G} {H H1 : Hp} {M1 : MM} {DD : DEnds} {D : Ends} (r1 : RelM K g1 H1 M1) (x : Gx g H g1 H1) (k : LEnds K g H DD D) : LEnds ⟨K.k, g1, H1⟩ g1 H1 DD D :=
  ⟨PostN.base r1 x k.nx, PostE.base r1 x k.rt, PostN.base r1 x k.bk, PostN.base r1 x k.ct⟩
/-- DD seen behind a suite whose name goes -/
def DEnds.gone (DD : DEnds) (i : Nat) : DEnds := { nx := fun ds M => DD.nx (ds.set i none) M, rt := DD.rt, bk := fun ds M => DD.bk (ds.set i none) M, ct := fun ds M => DD.ct (ds.set i none) M }
/-- the clause's class takes an exception of the class named nm: some true, some false -/
def dTryAs (i : Nat) (which : Str → Option Bool) (ub : DWX → DS) (us : Addr → Str → D → DS) (wd : DWX) : DS := fun DD ds M =>
  ub (fun ds1 nm d M1 => match which nm with
    | some true => ∀ a, us a nm d (DD.gone i) (ds1.set i (some (.exn a))) M1
    | some false => wd ds1 nm d M1
    | none => False) DD ds M
theorem s_tryAs {X : CB} {x n : Str} {c : Value} (i : Nat) {which : Str → Option Bool} {body suite : List Stmt} {b0 : Stmt} {np pos pos' : Pos} {ub : DWX → DS} {us : Addr → Str → D → DS} {wd : DWX} (hF : Flies X wd) (hc : Names X x c)
    (hw : ∀ nm C b, X.mg nm = some (.ref C) → which nm = some b → PySem.W.exmOne X.X.K (.ref C) c = some b)
    (hb : ∀ (pn : List (Addr × Obj)) (xe : Value → Shared → Prop) (g1 : G) (H1 : Hp) (wd' : DWX), Flies ⟨X.X.tr pn xe, g1, H1⟩ wd' → PassesOwn (model X.prog X.w) X.A X.env xe → XSs ⟨X.X.tr pn xe, g1, H1⟩ body (ub wd'))
    (hs : ∀ (a : Addr) (oe : Obj) (cls : Value) (d : Option Addr) (pn : List (Addr × Obj)) (g1 : G) (H1 : Hp) (nm : Str) (at_ : D), Zc cls d oe → (∃ vs, oe.data = .fields vs) → RelX X.X.K X.mg g1 cls d nm at_ → XSs ⟨X.X.suite a ((a, oe) :: pn), g1, H1⟩ (b0 :: suite) (us a nm at_))
    (hst : X.X.stack = X.env :: X.X.outer := by rfl) (hfr : X.env.frame = some X.env.locals := by rfl) (hN : X.N.Nodup) (hi : X.N[i]? = some n := by rfl) (hln : X.env.kindOf n = some .local := by rfl) :
    XS X (.Try body [.ExceptHandler (some (.Name x np)) (some n) (b0 :: suite) pos'] [] [] pos) (dTryAs i which ub us wd) := by
  obtain ⟨Wo, tko, hWo⟩ := hF.ex
  -- what the body, the suite wish
  let tb : WX → TS := fun W D σ H => ∃ g ds M DD wd', RelM ⟨X.X.K, g, H⟩ g H M ∧ RelS X.X.K g σ ds ∧ WRel ⟨X.X.K, g, H⟩ X.mg W wd' ∧ ub wd' DD ds M ∧ LEnds ⟨X.X.K, g, H⟩ g H DD D
  let ts : Addr → Value → Option Addr → TS := fun a cls d D σ H => ∃ g ds M DD nm at_, RelM ⟨X.X.K, g, H⟩ g H M ∧ RelS X.X.K g σ ds ∧ RelX X.X.K X.mg g cls d nm at_ ∧ us a nm at_ DD ds M ∧ LEnds ⟨X.X.K, g, H⟩ g H DD D
  refine ⟨_, ps_try_as (tb := tb) (ts := ts) (Wout := Wo) hst hfr hN hi hln hc tko (fun W pn xe tk po => ⟨fun pins s σ H D I h => ?_⟩) (fun a oe cls d pn hz hf => ⟨fun pins s σ H D I h => ?_⟩), fun g H σ ds M r s DD q D k => ?_⟩
  · obtain ⟨g, ds, M, DD, wd', r, s', hW, q, k⟩ := h
    obtain ⟨t, p, l⟩ := (hb pn xe g H wd' ⟨W, tk, hW⟩ po).ex
    exact p.run pins s σ H D I (l g H σ ds M r s' DD q D k)
  · obtain ⟨g, ds, M, DD, nm, at_, r, s', rx, q, k⟩ := h
    obtain ⟨t, p, l⟩ := (hs a oe cls d pn g H nm at_ hz hf rx).ex
    exact p.run pins s σ H D I (l g H σ ds M r s' DD q D k)
  · refine ⟨g, ds, M, DD, _, r.start, s, fun g1 H1 σ1 ds1 M1 cls d nm at_ r1 s1 rx e => ?_, q, LEnds.base r (Gx.refl g H) k⟩
    obtain ⟨C, dd, fs, v, rfl, hmC, rest⟩ := rx.ex
    have e' := e
    split at e'
    · rename_i hb1
      refine ⟨true, hw nm C true hmC hb1, fun _ a ha => ⟨g1, ds1.set i (some (.exn a)), M1, DD.gone i, nm, at_, r1.start, s1.set (.exn a) i, rx, e' a, ?_⟩, fun z => by cases z⟩
      have k1 : LEnds ⟨X.X.K, g1, H1⟩ g1 H1 DD D := LEnds.base (r1.base (K' := X.K) rfl (r.up.trans r1.up)) r1.up k
      exact ⟨fun g' H' σ' ds' M' y r' s' q' => k1.nx g' H' _ _ M' y r' (s'.unset i) q', k1.rt, fun g' H' σ' ds' M' y r' s' q' => k1.bk g' H' _ _ M' y r' (s'.unset i) q', fun g' H' σ' ds' M' y r' s' q' => k1.ct g' H' _ _ M' y r' (s'.unset i) q'⟩
    · rename_i hb1
      refine ⟨false, hw nm C false hmC hb1, fun z => (by cases z), fun _ => ?_⟩
      exact hWo g1 H1 σ1 ds1 M1 _ d nm at_ (r1.base (K' := X.K) rfl (r.up.trans r1.up)) s1 rx e'
    · exact e'.elim
/-- n.at, n.name in the suite -/
def dExF (i : Nat) (a : Addr) (d : D) : DE := fun ds M Q => ds[i]? = some (some (.exn a)) ∧ Q d M
theorem xexn {Y : Cx} {g1 : G} {H1 : Hp} {a : Addr} {oe : Obj} {cls : Value} {d : Option Addr} {pn : List (Addr × Obj)} {nm n : Str} {at_ y : D} (i : Nat) {np pos : Pos} {x : Str} (hz : Zc cls d oe) (hf : ∃ vs, oe.data = .fields vs) (rx : RelX Y.K Y.mg g1 cls d nm at_)
    (hn : (n = "at" ∧ y = at_) ∨ (n = "name" ∧ y = .str nm)) (hi : Y.N[i]? = some x := by rfl) (hv : Vis Y.env.scope x := by first | exact Or.inl rfl | exact Or.inr (Or.inl rfl) | exact Or.inr (Or.inr rfl)) (hd : (x == ("__debug__" : Str)) = false := by decide) (hcd : (x == ("__classdict__" : Str)) = false := by decide) (hb : attributeBase (.Name x np) n Y.env (eval (.Name x np) Y.env) = eval (.Name x np) Y.env := by rfl) :
    XE ⟨Y.suite a ((a, oe) :: pn), g1, H1⟩ (.Attribute (.Name x np) n pos) (dExF i a y) := by
  obtain ⟨C, dd, fs, v, h1, h2, h3, h4, h5, h6, h7, h8, h9, h10⟩ := rx.ex
  have hno : PySem.W.findIn Y.K (.ref C) n = some none := by
    rcases hn with ⟨e, _⟩ | ⟨e, _⟩ <;> rw [e] <;> assumption
  have hv' : ∃ u, List.lookup n fs = some u ∧ ∀ g', Gr g1 g' → RelD Y.K g' y u := by
    rcases hn with ⟨e, ey⟩ | ⟨e, ey⟩
    · subst e; subst ey
      exact ⟨v, h5, fun g' x => h6.mono x⟩
    · subst e; subst ey
      exact ⟨_, h7, fun g' x => .str nm⟩
  obtain ⟨u, hu, hr⟩ := hv'
  obtain ⟨t, p, l⟩ := (xv (X := ⟨Y.suite a ((a, oe) :: pn), g1, H1⟩) (pos := np) i hi hv hd hcd).ex
  refine ⟨_, pe_xf h8 hno hz hf p hb, fun g H σ ds M r s Q q R k => ?_⟩
  refine l g H σ ds M r s (fun d M1 => d = .exn a ∧ M1 = M) (by unfold dVar; rw [q.1]; exact ⟨rfl, rfl⟩) _ fun g2 H2 M1 d1 v1 x1 r1 rd q1 => ?_
  obtain ⟨e1, e2⟩ := q1
  subst e1; subst e2
  cases rd
  exact ⟨rfl, h1, dd, fs, u, h3, r1.ex _ _ (r1.up.gr.f _ _ h4), hu, k g2 H2 M1 y u x1 r1 (hr _ r1.up.gr) q.2⟩
/-! ### which exceptions a clause takes -/
def wlook : List (Str × Bool) → Str → Option Bool
  | [], _ => none
  | (n, b) :: r, x => if n = x then some b else wlook r x
theorem wlook_hit {n : Str} {b : Bool} {r : List (Str × Bool)} : wlook ((n, b) :: r) n = some b := if_pos rfl
theorem wlook_miss {n x : Str} {b : Bool} {r : List (Str × Bool)} (h : ¬ n = x) : wlook ((n, b) :: r) x = wlook r x := if_neg h
theorem wlook_mem {x : Str} {b : Bool} : ∀ {l : List (Str × Bool)}, wlook l x = some b → (x, b) ∈ l
  | [], h => by cases h
  | (n, c) :: r, h => by
    unfold wlook at h
    split at h
    · rename_i e
      cases h
      rw [e]
      exact List.mem_cons_self
    · exact List.mem_cons_of_mem _ (wlook_mem h)
/-- the class named hn as a clause's: of each class in wl, whether it is taken -/
structure Hnd (K : PySem.W.Frag) (mg : Str → Option Value) (hn : Str) (wl : List (Str × Bool)) : Prop where
  ex : ∃ D : Addr, mg hn = some (.ref D) ∧ ∀ p ∈ wl, ∃ C : Addr, mg p.1 = some (.ref C) ∧ PySem.W.exmOne K (.ref C) (.ref D) = some p.2
theorem s_tryN {X : CB} {x n : Str} (i : Nat) {wl : List (Str × Bool)} {body suite : List Stmt} {b0 : Stmt} {np pos pos' : Pos} {ub : DWX → DS} {us : Addr → Str → D → DS} {wd : DWX} (hF : Flies X wd) (hh : Hnd X.X.K X.mg x wl) (hN : X.N.Nodup)
    (hb : ∀ (pn : List (Addr × Obj)) (xe : Value → Shared → Prop) (g1 : G) (H1 : Hp) (wd' : DWX), Flies ⟨X.X.tr pn xe, g1, H1⟩ wd' → PassesOwn (model X.prog X.w) X.A X.env xe → XSs ⟨X.X.tr pn xe, g1, H1⟩ body (ub wd'))
    (hs : ∀ (a : Addr) (oe : Obj) (cls : Value) (d : Option Addr) (pn : List (Addr × Obj)) (g1 : G) (H1 : Hp) (nm : Str) (at_ : D), Zc cls d oe → (∃ vs, oe.data = .fields vs) → RelX X.X.K X.mg g1 cls d nm at_ → XSs ⟨X.X.suite a ((a, oe) :: pn), g1, H1⟩ (b0 :: suite) (us a nm at_))
    (hg : Gl X x := by rfl) (hd : (x == ("__debug__" : Str)) = false := by decide) (hst : X.X.stack = X.env :: X.X.outer := by rfl) (hfr : X.env.frame = some X.env.locals := by rfl) (hi : X.N[i]? = some n := by rfl) (hln : X.env.kindOf n = some .local := by rfl) :
    XS X (.Try body [.ExceptHandler (some (.Name x np)) (some n) (b0 :: suite) pos'] [] [] pos) (dTryAs i (wlook wl) ub us wd) := by
  obtain ⟨D, hm, hw⟩ := hh.ex
  refine s_tryAs i hF ⟨hg, hd, .inl hm⟩ (fun nm C b h1 h2 => ?_) hb hs hst hfr hN hi hln
  obtain ⟨C', h3, h4⟩ := hw _ (wlook_mem h2)
  have e := h1.symm.trans h3
  cases e
  exact h4
/-! ### the written part's facts, put together -/
section
open PySem.W PySem.HandSPX
variable {prog : Program} {K : PySem.W.Frag} {mg : Str → Option Value} {h : Heap} {C f0 D0 fI Td cda cc cda2 cc2 : Addr} {nm nmv q qual : Str} {N : Addr} {bs : List Value} {sn : List Str} {sub : List Value} {ab : Bool} {col : Option Bool} {dd : Option Addr} {k0 k1 k2 k3 k5 : Option Value}
  {oc oc2 : Value} {od od2 : Option Addr} {dv : Value} {nd : Nat} {kV doc pm ct kV2 doc2 pm2 ct2 : Value} {an an2 : Option Addr} {osl osl2 : Array (Option Value)} {oTc : Value} {oTd : Option Addr} {oTs : Array (Option Value)}
  {cl cl2 ccl ccl2 : Value} {cld cld2 cdd cdd2 : Option Addr} {csl csl2 ccs ccs2 : Array (Option Value)} {vs vs2 : Array Value} {file file2 : Str} {tf tf2 : Tok}
  {a0 a1 a2 a3 p0 p1 p2 p3 p4 p5 p6 p7 p8 p9 q0 q1 q2 q3 b0 b1 r0 r1 r2 r3 r4 r5 r6 : Pos}
theorem err_mk (X : K.In h) (G : h.Ns mainGlobals mg)
    (gB : nsIn K mainGlobals "CarError" = some (some (.ref D0))) (iB : findIn K (.ref D0) "__init__" = some (some (.ref f0)))
    (lB : K.lookup f0 = some ⟨oc, od, .func (ksFn "__init__" "CarError.__init__" (baseA a0 a1 a2 a3) (baseB p0 p1 p2 p3 p4 p5 p6 p7 p8 p9 q0 q1 q2 q3) baseS (.ref Td) kV doc pm an (.ref cda) ct cc), osl⟩)
    (cB : codeIn K (.ref cda) "CarError.__init__" = true) (tB : K.lookup Td = some ⟨oTc, oTd, .seq #[dv] nd, oTs⟩) (eB : K.lookup cc = some ⟨cl, cld, .cell (some (.ref D0)), csl⟩)
    (oB : K.lookup cda = some ⟨ccl, cdd, .fields vs, ccs⟩) (vB : vs[2]? = some (.str file tf)) (fB : ((prog.main.file : Str) == file) = true) (nB : (p2.endLine == p4.line) = true)
    (sB : isClsIn K D0 = true) (yB : typeIn K (.ref f0) = some (.type "function")) (pB : (prog.main.scope.names.lookup ("super" : Str)).isSome = false) (uB : nsIn K mainGlobals "super" = some none)
    (gC : nsIn K mainGlobals nm = some (some (.ref C)))
    (lC : K.lookup C = some (excClassObj nmv q C N bs [.ref D0, .type "ValueError", .type "Exception", .type "BaseException", .type "object"] true sn sub ab col dd k0 k1 k2 k3 k5 "ValueError.__new__"))
    (sa : findIn K (.ref C) "__setattr__" = some (some (.builtin "object.__setattr__"))) (n1 : findIn K (.ref C) "at" = some none) (n2 : findIn K (.ref C) "name" = some none)
    (s0 : mroIn K C (.ref D0) = some true) (vE : subIn K (.ref C) (.type "ValueError") = some true) (u0 : ks_superIn K C D0 "__init__" = some (some (.builtin "ValueError.__init__"))) (oth : nsIn K cStatics "thirdparty.any" = some none)
    (xC : subIn K (.ref C) (.type "BaseException") = some true) (yC : typeIn K (.ref C) = some (.type "type")) (kC : keepIn K (.ref C) = true)
    (iC : findIn K (.ref C) "__init__" = some (some (.ref fI))) (tI : typeIn K (.ref fI) = some (.type "function")) (sC : mroIn K C (.ref C) = some true) (uI : ks_superIn K C C "__init__" = some (some (.ref f0)))
    (lI : K.lookup fI = some ⟨oc2, od2, .func (ksFn "__init__" qual (subA b0 b1) (subB nm r0 r1 r2 r3 r4 r5 r6) subS .none kV2 doc2 pm2 an2 (.ref cda2) ct2 cc2), osl2⟩)
    (cI : codeIn K (.ref cda2) qual = true) (eI : K.lookup cc2 = some ⟨cl2, cld2, .cell (some (.ref C)), csl2⟩) (oI : K.lookup cda2 = some ⟨ccl2, cdd2, .fields vs2, ccs2⟩) (vI : vs2[2]? = some (.str file2 tf2)) (fI' : ((prog.main.file : Str) == file2) = true) (nI : (r2.endLine == r5.line) = true)
    (ga : findIn K (.ref C) "__getattribute__" = some (some (.builtin "BaseException.__getattribute__"))) (gg : findIn K (.ref C) "__getattr__" = some none) (hdC : hasDictIn K C = true) : Err prog K mg nm :=
  ⟨⟨C, f0, D0, fI, PySem.W.mg_of X G gC,
    ⟨⟨oc, od, Td, _, dv, nd, kV, doc, pm, an, cda, ct, osl, cc, a0, a1, a2, a3, p0, p1, p2, p3, p4, p5, p6, p7, p8, p9, q0, q1, q2, q3, lB, cB, tB, rfl, ⟨_, _, _, eB⟩, _, _, vs, _, file, tf, oB, vB, fB, nB⟩, sB, yB, pB⟩,
    ⟨⟨nmv, q, N, bs, _, sn, sub, ab, col, dd, k0, k1, k2, k3, k5, lC, (by first | rfl | with_unfolding_all rfl)⟩, sa, n1, n2, s0, vE, u0, oth, xC, yC, kC⟩,
    ⟨⟨oc2, od2, kV2, doc2, pm2, an2, cda2, ct2, osl2, cc2, qual, b0, b1, r0, r1, r2, r3, r4, r5, r6, lI, cI, ⟨_, _, _, eI⟩, _, _, vs2, _, file2, tf2, oI, vI, fI', nI⟩, iC, tI, sC, uI⟩,
    ⟨ga, gg, xC, hdC⟩⟩, PySem.W.mg_none_of X G uB⟩
theorem exm_of {K : PySem.W.Frag} {C D : Addr} {b : Bool} (h1 : subIn K (.ref D) (.type "BaseException") = some true) (h2 : isClsIn K D = true) (h3 : typeIn K (.ref D) = some (.type "type")) (h5 : isClsIn K C = true) (h6 : typeIn K (.ref C) = some (.type "type")) (h7 : subIn K (.ref C) (.type "BaseException") = some true) (h4 : subIn K (.ref C) (.ref D) = some b) : exmOne K (.ref C) (.ref D) = some b := by
  have e2 : (clsIn K D).isSome = true := h2
  have e5 : (clsIn K C).isSome = true := h5
  unfold exmOne kitCls
  simp [h1, h3, h4, h6, h7, e2, e5]
end
/-- one class more of which it is told -/
theorem hnd_one {K : PySem.W.Frag} {mg : Str → Option Value} {h : Heap} {hn : Str} {D : Addr} (X : K.In h) (G : h.Ns mainGlobals mg) (g : PySem.W.nsIn K mainGlobals hn = some (some (.ref D))) : Hnd K mg hn [] := ⟨D, PySem.W.mg_of X G g, fun p hp => by cases hp⟩
theorem hnd_more {K : PySem.W.Frag} {mg : Str → Option Value} {h : Heap} {hn nm : Str} {C D : Addr} {b : Bool} {wl : List (Str × Bool)} (X : K.In h) (G : h.Ns mainGlobals mg) (r : Hnd K mg hn wl) (g : PySem.W.nsIn K mainGlobals hn = some (some (.ref D))) (g2 : PySem.W.nsIn K mainGlobals nm = some (some (.ref C)))
    (h1 : PySem.W.subIn K (.ref D) (.type "BaseException") = some true) (h2 : PySem.W.isClsIn K D = true) (h3 : PySem.W.typeIn K (.ref D) = some (.type "type")) (h5 : PySem.W.isClsIn K C = true) (h6 : PySem.W.typeIn K (.ref C) = some (.type "type")) (h7 : PySem.W.subIn K (.ref C) (.type "BaseException") = some true) (h4 : PySem.W.subIn K (.ref C) (.ref D) = some b) : Hnd K mg hn ((nm, b) :: wl) := by
  obtain ⟨D', e1, hw⟩ := r.ex
  have e := e1.symm.trans (PySem.W.mg_of X G g)
  cases e
  refine ⟨D, e1, fun p hp => ?_⟩
  rcases List.mem_cons.mp hp with z | z
  · subst z
    exact ⟨C, PySem.W.mg_of X G g2, exm_of h1 h2 h3 h5 h6 h7 h4⟩
  · exact hw p z
end AX

/-! more built-ins over the plain data: gcd, tuple(..) -/
namespace AX
open PySem PySem.Spec PyProof.Rows L2
def gcdD (x y : D) (M : MM) (Q : DK) : Prop := match x with
  | .int i => match y with
    | .int j => Q (.int ((Nat.gcd i.natAbs j.natAbs : Nat) : Int)) M
    | _ => False
  | _ => False
theorem lcGcd {K : KB} : LC K rGcd (a2 gcdD) := lc_a2 fun g H M x y v w r rx ry Q q R k => by
  cases rx with
  | int i => cases ry with
    | int j => exact ⟨i, j, rfl, k g H M _ _ (Gx.refl g H) r (.int _) q⟩
    | _ => exact q.elim
  | _ => exact q.elim
section
variable {X : CB} {x : Str} {p pos : Pos} {e : Expr} {es : List Expr} {ua : DA} {bid : String} {r : List V → Hp → VK → Prop} {u : DL}
/-- a built-in function by a name of the module's -/
theorem xgf (hc : CallR X (.builtin bid) r) (hl : LC X.K r u) (hm : X.mg x = some (.builtin bid)) (ha : XA X (e :: es) ua) (hg : Gl X x := by rfl) (hdb : (x == ("__debug__" : Str)) = false := by decide)
    (he : starEach (e :: es) X.env = (false, eval e X.env) :: starEach es X.env := by rfl) (hpl : (backTo pos (starEach es X.env)).any (·.1) = false := by rfl) : XE X (.Call (.Name x p) (e :: es) [] pos) (dCB u ua) := by
  obtain ⟨t, pa, l⟩ := ha.ex
  exact ⟨_, pe_callBfun hc hg hm pa hdb he hpl, le_cb l hl⟩
end
/-- tuple(..) -/
def tupD (x : D) (M : MM) (Q : DK) : Prop := match x with
  | .tup xs => Q (.tup xs) M
  | .scr xs => Q (.tup xs) M
  | x => match seqOf M x with
    | some xs => Q (.tup xs) M
    | none => False
theorem lcTuple {K : KB} : LC K (fun xs H Q => ∃ p ys, xs = [.ref p] ∧ ((SqL K H p ys ∧ ∀ l, H l = none → Q (.ref l) (upd H l (.tup ys))) ∨ (SqT K H p ys ∧ Q (.ref p) H))) (a1 tupD) := lc_a1 fun g H M x v r rx Q q R k => by
  unfold tupD at q
  split at q
  · cases rx with
    | tup h1 r1 => exact ⟨_, _, rfl, .inr ⟨same_t r.ex h1, k g H M _ _ (Gx.refl g H) r (.tup h1 r1) q⟩⟩
  · cases rx with
    | scr h1 r1 =>
      refine ⟨_, _, rfl, .inl ⟨r.ex.seq h1, fun l hl => ?_⟩⟩
      obtain ⟨g2, x2, r2, rd⟩ := newT r r1 hl
      exact k g2 _ M _ _ x2 r2 rd q
  · split at q
    · rename_i xs e
      obtain ⟨p, vs, rfl, hp, rl⟩ := seq_rel r rx e
      refine ⟨_, _, rfl, .inl ⟨.inl hp, fun l hl => ?_⟩⟩
      obtain ⟨g2, x2, r2, rd⟩ := newT r rl hl
      exact k g2 _ M _ _ x2 r2 rd q
    · exact q.elim
/-! ### dicts that stand -/
/-- {} that is not changed -/
theorem xdz {X : CB} {pos : Pos} : XE X (.Dict [] [] pos) (dC (.dct [] [])) := ⟨_, pe_dnewK, fun g H σ ds M r s Q q R k p hp => by
  obtain ⟨x, r'⟩ := r.grow (o := .dK []) hp
  exact k _ _ M (.dct [] []) _ x r' (.dct (vs := []) (.inl upd_same) rfl .nil) q⟩
/-- its type is known -/
def D.kn : D → Bool
  | .loc _ => false
  | .ty _ => false
  | .exn _ => false
  | _ => true
theorem D.pure_kn {x : D} (h : x.pure = true) : x.kn = true := by cases x <;> first | rfl | (simp [D.pure] at h)
section
variable {x : D} {M : MM} {Q : DK}
def D.isL : D → Bool
  | .lst _ => true
  | .scr _ => true
  | _ => false
def D.isD : D → Bool
  | .dct _ _ => true
  | _ => false
theorem kn_bl (h : x.kn = true) : isiD x (.ty "bool") M Q = Q (.bl x.isBl) M := by cases x <;> first | rfl | (simp [D.kn] at h)
theorem kn_int (h : x.kn = true) : isiD x (.ty "int") M Q = Q (.bl x.isInt) M := by cases x <;> first | rfl | (simp [D.kn] at h)
theorem kn_str (h : x.kn = true) : isiD x (.ty "str") M Q = Q (.bl x.isStr) M := by cases x <;> first | rfl | (simp [D.kn] at h)
theorem kn_lst (h : x.kn = true) : isiD x (.ty "list") M Q = Q (.bl x.isL) M := by cases x <;> first | rfl | (simp [D.kn] at h)
theorem kn_tup (h : x.kn = true) : isiD x (.ty "tuple") M Q = Q (.bl x.isTup) M := by cases x <;> first | rfl | (simp [D.kn] at h)
theorem kn_dic (h : x.kn = true) : isiD x (.ty "dict") M Q = Q (.bl x.isD) M := by cases x <;> first | rfl | (simp [D.kn] at h)
end
end AX

/-! more built-ins over the plain data: xs[::-1], isinstance(x, (S, T)) -/
namespace AX
open PySem PySem.Spec PyProof.Rows L2
section
variable {X : CB} {e : Expr} {ue : DE} {pos p p1 p2 p3 p4 : Pos} {S T : String} {x y : Str} {n : Nat}
/-- a list the other way round -/
def revD (x : D) (M : MM) (Q : DK) : Prop := match x with
  | .scr xs => Q (.lst xs.reverse) M
  | x => match seqOf M x with
    | some xs => Q (.lst xs.reverse) M
    | none => False
def dRev (ue : DE) : DE := fun ds M Q => ue ds M fun x M1 => revD x M1 Q
theorem xrev {k : Nat} (he : XE X e ue) : XE X (.Subscript e (.Slice none none (some (.UnaryOp .USub (.Constant (.int 1) k p1) p2)) p3) pos) (dRev ue) := by
  obtain ⟨t, pe, l⟩ := he.ex
  refine ⟨_, pe_revL pe, fun g H σ ds M r s Q q R k => l g H σ ds M r s _ q _ fun g1 H1 M1 d v x1 r1 rd q1 => ?_⟩
  simp only [revD] at q1
  split at q1
  · cases rd with
    | scr h1 rl =>
      refine ⟨_, _, rfl, r1.ex.seq h1, fun p hp => ?_⟩
      obtain ⟨g2, x2, r2, rd2⟩ := newL r1 rl.rev hp
      exact k g2 _ M1 _ _ (x1.trans x2) r2 rd2 q1
  · split at q1
    · rename_i xs e
      obtain ⟨p, vs, rfl, hp, rl⟩ := seq_rel r1 rd e
      refine ⟨_, _, rfl, .inl hp, fun p hp => ?_⟩
      obtain ⟨g2, x2, r2, rd2⟩ := newL r1 rl.rev hp
      exact k g2 _ M1 _ _ (x1.trans x2) r2 rd2 q1
    · exact q1.elim
/-- is it of one of two built-in types -/
def dIsi2 (ue : DE) (S T : String) : DE := fun ds M Q => ue ds M fun x M1 => match isiT (tyName M1 x) S with
  | some a => match isiT (tyName M1 x) T with
    | some b => Q (.bl (a || b)) M1
    | none => False
  | none => False
theorem xisi2 (he : XE X e ue) (hm : X.mg "isinstance" = none) (hmS : X.mg x = none) (hmT : X.mg y = none) (hvS : bootBuiltins x = some (.type S)) (hvT : bootBuiltins y = some (.type T))
    (hg : Gl X "isinstance" := by rfl) (hgS : Gl X x := by rfl) (hgT : Gl X y := by rfl) (hnS : x ≠ "__name__" := by decide) (hdS : (x == ("__debug__" : Str)) = false := by decide)
    (hnT : y ≠ "__name__" := by decide) (hdT : (y == ("__debug__" : Str)) = false := by decide)
    (s1 : starEach [e, .Tuple [.Name x p2, .Name y p3] n p4] X.env = (false, eval e X.env) :: starEach [.Tuple [.Name x p2, .Name y p3] n p4] X.env := by rfl) :
    XE X (.Call (.Name "isinstance" p) [e, .Tuple [.Name x p2, .Name y p3] n p4] [] pos) (dIsi2 ue S T) := by
  obtain ⟨t, pe, l⟩ := he.ex
  have pS : PE X.X (.Name x p2) (tC (.ty S)) := pe_bltn (v := .ty S) hgS hmS hvS rfl hnS hdS
  have pT : PE X.X (.Name y p3) (tC (.ty T)) := pe_bltn (v := .ty T) hgT hmT hvT rfl hnT hdT
  refine ⟨_, pe_callB call_isiT hg hm boot_isinstance (pa_cons pe (pa_cons (pe_tup (pa_cons pS (pa_cons pT pa_nil))) pa_nil) s1) (by decide) (by decide) s1, fun g H σ ds M r s Q q R k => l g H σ ds M r s _ q _ fun g1 H1 M1 d v x1 r1 rd q1 => ?_⟩
  simp only at q1
  split at q1
  · rename_i a ea
    split at q1
    · rename_i b eb
      refine ⟨size_le (show 2 ≤ 1000000 by decide), fun tp htp => ?_⟩
      obtain ⟨x2, r2⟩ := r1.grow (o := .tup [.ty S, .ty T]) htp
      refine ⟨v, tp, [.ty S, .ty T], _, [.type S, .type T], a || b, rfl, upd_same, .cons (.ty S) (.cons (.ty T) .nil), tyx_of r2 (rd.mono x2) ea, ?_, ?_⟩
      · refine kitAny_cons (kit_ty (isiT_kit ea)) (fun ha => ?_) fun ha => by rw [ha]; rfl
        subst ha
        refine kitAny_cons (kit_ty (isiT_kit eb)) (fun hb => ?_) fun hb => by rw [hb]; rfl
        subst hb
        rfl
      · exact k _ _ M1 _ _ (x1.trans x2) r2 (.bl _) q1
    · exact q1.elim
  · exact q1.elim
end
/-! more values, by what they are worth -/
section
variable {e1 e2 e3 : DE} {x y z d : D} {ds : DEnv} {M : MM} {xs : List D} {DD : DEnds}
theorem v_tup2 (h1 : Val e1 ds M x) (h2 : Val e2 ds M y) : Val (dTup (dCons e1 (dCons e2 dNil))) ds M (.tup [x, y]) := fun Q q => h1 _ (h2 _ ⟨size_le (show 2 ≤ 1000000 by decide), q⟩)
theorem v_lst2 (h1 : Val e1 ds M x) (h2 : Val e2 ds M y) : Val (dLst (dCons e1 (dCons e2 dNil))) ds M (.lst [x, y]) := fun Q q => h1 _ (h2 _ ⟨size_le (show 2 ≤ 1000000 by decide), q⟩)
theorem v_rev (h1 : Val e1 ds M x) (hs : seqOf M x = some xs) : Val (dRev e1) ds M (.lst xs.reverse) := fun Q q => h1 _ (by
  cases x with
  | lst ys => cases hs; exact q
  | loc n =>
    show revD (.loc n) M Q
    unfold revD
    simp only [hs]
    exact q
  | _ => cases hs)
theorem v_tupOf (h1 : Val e1 ds M x) (hs : seqOf M x = some xs) : Val (dCB (a1 tupD) (dCons e1 dNil)) ds M (.tup xs) := fun Q q => h1 _ (by
  cases x with
  | lst ys => cases hs; exact q
  | loc n =>
    show tupD (.loc n) M Q
    unfold tupD
    simp only [hs]
    exact q
  | _ => cases hs)
theorem v_cb1 {f : D → MM → DK → Prop} (h1 : Val e1 ds M x) (h : ∀ Q : DK, Q d M → f x M Q) : Val (dCB (a1 f) (dCons e1 dNil)) ds M d := fun Q q => h1 _ (h Q q)
theorem v_cb2 {f : D → D → MM → DK → Prop} (h1 : Val e1 ds M x) (h2 : Val e2 ds M y) (h : ∀ Q : DK, Q d M → f x y M Q) : Val (dCB (a2 f) (dCons e1 (dCons e2 dNil))) ds M d := fun Q q => h1 _ (h2 _ (h Q q))
theorem for_tup {gt : DG} {b : DS} (h : Val e1 ds M (.tup xs)) (k : dLoop noChk gt b DD xs ds M) : dFor (dTupI e1) gt b DD ds M := h _ k
theorem for_lst {gt : DG} {b : DS} (h : Val e1 ds M (.lst xs)) (k : dLoop noChk gt b DD xs ds M) : dFor (dList e1) gt b DD ds M := h _ k
theorem for_loc {gt : DG} {b : DS} {i n : Nat} (hi : ds[i]? = some (some (.loc n))) (hm : M[n]? = some (.lst xs)) (k : dLoop (fun M2 => M2[n]? = some (.lst xs)) gt b DD xs ds M) : dFor (dList (dVar i)) gt b DD ds M := by
  unfold dFor dList
  refine v_var hi _ ?_
  simp only [hm]
  exact k
theorem eq_intc {r s : Int} {K : DK} (k : K (.bl (decide (r = s))) M) : dEq (.int r) (.int s) M K := k
/-- xs.append(e) -/
theorem s_app {i n : Nat} (hi : ds[i]? = some (some (.loc n))) (hm : M[n]? = some (.lst xs)) (h : Val e1 ds M d) (hl : xs.length < sizeLine) (k : DD.nx ds (M.set n (.lst (xs ++ [d])))) : dDrop (dBM "list" appD (dVar i) (dCons e1 dNil)) DD ds M := by
  unfold dDrop dBM
  refine v_var hi _ ?_
  refine ⟨?_, h _ ?_⟩
  · unfold tyD
    simp only [hm]
  · unfold dNil appD
    simp only [hm]
    exact ⟨hl, k⟩
end
end AX

/-! lists that are changed: made by comprehensions; pop, insert -/
namespace AX
open PySem L2 PySem.F PyProof.Rows
section
variable {K : KB}
/-- a list that stands already is taken into the store -/
theorem takeM {g : G} {H : Hp} {M : MM} {p : Addr} {xs : List D} {vs : List V} (r : RelM K g H M) (hb : K.H0 p = none) (hp : H p = some (.lst vs)) (hn : p ∉ g.as) (hf : g.F p = none) (rl : RelL K g xs vs) :
    Gr g ⟨g.F, g.as ++ [p]⟩ ∧ (∀ {g0 H0}, Gx g0 H0 g H → H0 p = none → Gx g0 H0 ⟨g.F, g.as ++ [p]⟩ H) ∧ RelM K ⟨g.F, g.as ++ [p]⟩ H (M ++ [.lst xs]) ∧ RelD K ⟨g.F, g.as ++ [p]⟩ (.loc M.length) (.ref p) := by
  have gr : Gr g ⟨g.F, g.as ++ [p]⟩ := ⟨Same.refl _, [p], rfl⟩
  have on : ∀ {g0 H0}, Gx g0 H0 g H → H0 p = none → Gx g0 H0 ⟨g.F, g.as ++ [p]⟩ H := fun {g0 H0} x h0 => ⟨x.gr.trans gr, x.keep, fun b hb => by
    rcases List.mem_append.mp hb with h | h
    · exact x.new b h
    · have e : b = p := by simpa using h
      subst e
      exact .inr h0, x.newF⟩
  have ep : (g.as ++ [p])[M.length]? = some p := by rw [← r.len, List.getElem?_append_right (Nat.le_refl _), Nat.sub_self]; rfl
  refine ⟨gr, on, ⟨r.ex, ?_, ?_, fun a ha => ?_, fun n a mo' h1 h2 => ?_, on r.up hb⟩, .loc ep⟩
  · show (g.as ++ [p]).length = (M ++ [MO.lst xs]).length
    rw [List.length_append, List.length_append, r.len]
    rfl
  · show (g.as ++ [p]).Nodup
    rw [List.nodup_append]
    refine ⟨r.nd, by simp, fun a ha b hb => ?_⟩
    have e : b = p := by simpa using hb
    subst e
    exact fun z => hn (z ▸ ha)
  · rcases List.mem_append.mp ha with h | h
    · exact r.tk a h
    · have e : a = p := by simpa using h
      subst e
      exact ⟨_, hp⟩
  · have h1' : (g.as ++ [p])[n]? = some a := h1
    by_cases hn' : n < g.as.length
    · rw [List.getElem?_append_left hn'] at h1'
      rw [List.getElem?_append_left (by rw [← r.len]; exact hn')] at h2
      exact (r.ob n a mo' h1' h2).mono gr id fun u q => q
    · have e : n = M.length := by
        have z := (List.getElem?_eq_some_iff.mp h2).1
        rw [List.length_append, List.length_singleton] at z
        have := r.len
        omega
      subst e
      rw [List.getElem?_append_right (Nat.le_refl _), Nat.sub_self] at h2
      rw [ep] at h1'
      cases h1'
      cases h2
      exact ⟨hf, vs, hp, rl.mono gr⟩
def dLcN (ui : DI) (gt : DG) (ut : DT) (ue : DE) (vs : List Nat) : DE := fun ds M Q => ui ds M fun xs chk M1 => dLcL chk gt ut ue (wipeD ds vs) (fun ys M2 => Q (.loc M2.length) (M2 ++ [.lst ys])) xs [] M1
theorem le_lcN {wi : TI} {ui : DI} {t : TG} {gt : DG} {tt : TT} {ut : DT} {te : TE} {ue : DE} {vs : List Nat} (li : LI K wi ui) (lg : LG K t gt) (og : Only t vs) (lt : LT K tt ut) (le : LE K te ue) : LE K (tLc wi t tt te vs) (dLcN ui gt ut ue vs) := by
  intro g H σ ds M r s Q q R k
  refine li g H σ ds M r s _ q _ fun g1 H1 M1 xs chk J x r1 jk q1 => ?_
  intro p hp
  have h0 := r1.free0 hp
  have f1 : g1.F p = none := r1.ex.free hp
  have n1 : p ∉ g1.as := fun h => by
    obtain ⟨o, e⟩ := r1.tk p h
    rw [hp] at e
    cases e
  -- W: the items ahead of i are done
  refine ⟨fun i m H' => i + m = xs.length ∧ ∃ g2 M2 acc vs', Gx g1 H1 g2 H' ∧ p ∉ g2.as ∧ g2.F p = none ∧ RelM K g2 H' M2 ∧ H' p = some (.lst vs') ∧ RelL K g2 acc vs' ∧ dLcL chk gt ut ue (wipeD ds vs) (fun ys M2 => Q (.loc M2.length) (M2 ++ [.lst ys])) (xs.drop i) acc M2,
    ⟨xs.length, by omega, g1, M1, [], [], (Gx.refl g1 H1).aside hp, n1, f1, r1.aside h0 n1 f1, upd_same, .nil, q1⟩, fun i m H' hw => ?_⟩
  obtain ⟨em, g2, M2, acc, vs', x2, n2, f2, r2, hv, rl, q2⟩ := hw
  by_cases hi : i < xs.length
  · rw [List.drop_eq_getElem_cons hi] at q2
    obtain ⟨c2, q2⟩ := q2
    obtain ⟨hgo, hy⟩ := jk.go g2 H' M2 i xs[i] x2 r2 c2 (List.getElem?_eq_getElem hi)
    refine .inr ⟨hgo, fun H3 => ∃ g3 M3 acc3 vs3, Gx g1 H1 g3 H3 ∧ p ∉ g3.as ∧ g3.F p = none ∧ RelM K g3 H3 M3 ∧ H3 p = some (.lst vs3) ∧ RelL K g3 acc3 vs3 ∧ dLcL chk gt ut ue (wipeD ds vs) (fun ys M2 => Q (.loc M2.length) (M2 ++ [.lst ys])) (xs.drop (i + 1)) acc3 M3,
      fun H3 hn => ⟨m - 1, by omega, by omega, hn⟩, fun y H3 yy => ?_⟩
    obtain ⟨g3, x3, r3, rd⟩ := hy y H3 yy
    -- what p is, further on
    have far : ∀ {g4 H4}, Gx g2 H' g4 H4 → p ∉ g4.as ∧ g4.F p = none ∧ H4 p = some (.lst vs') := fun {g4 H4} z => by
      refine ⟨fun h => ?_, ?_, z.keep p _ n2 hv⟩
      · rcases z.new p h with e | e
        · exact n2 e
        · rw [hv] at e
          cases e
      · rcases z.newF p f2 with e | e | e
        · exact e
        · exact absurd e n2
        · rw [hv] at e
          cases e
    have sw : RelS K g3 (L2.wipe σ vs) (wipeD ds vs) := ((s.mono x).wipe vs).mono (x2.gr.trans x3.gr)
    refine og y _ _ _ _ (fun σ' H4' w4 z => (⟨by rw [w4]; exact wipe_wipe σ vs, z⟩ : _ ∧ _)) (lg g3 H3 _ _ M2 _ _ r3 sw rd _ q2 _ fun g4 H4 σ4 ds4 M4 x4 r4 s4 q4 => ?_)
    refine lt g4 H4 σ4 ds4 M4 r4 s4 _ q4 _ fun g5 H5 M5 b x5 r5 q5 => ?_
    have x35 := x3.trans (x4.trans x5)
    cases b with
    | true =>
      rw [if_pos rfl] at q5 ⊢
      refine le g5 H5 σ4 ds4 M5 r5 (s4.mono x5) _ q5 _ fun g6 H6 M6 dd v6 x6 r6 rd6 q6 => ?_
      obtain ⟨n6, f6, h6⟩ := far (x35.trans x6)
      refine ⟨vs', h6, by rw [← rl.len]; exact q6.1, g6, M6, acc ++ [dd], vs' ++ [v6], (x2.trans (x35.trans x6)).aside hp, n6, f6, r6.aside h0 n6 f6, upd_same, (rl.mono (x35.trans x6).gr).app (.cons rd6 .nil), q6.2⟩
    | false =>
      rw [if_neg Bool.false_ne_true] at q5 ⊢
      obtain ⟨n5, f5, h5⟩ := far x35
      exact ⟨g5, M5, acc, vs', x2.trans x35, n5, f5, r5, h5, rl.mono x35.gr, q5⟩
  · rw [List.drop_of_length_le (by omega)] at q2
    obtain ⟨c2, q2⟩ := q2
    obtain ⟨gr, on, rr, rd⟩ := takeM r2 h0 hv n2 f2 rl
    exact .inl ⟨jk.stop g2 H' M2 i x2 r2 c2 (by omega), k _ H' _ _ _ (x.trans (on x2 hp)) rr rd q2⟩
end
section
variable {X : CB} {pos : Pos} {scope : Scope}
theorem xlcN {elt tg iter : Expr} {ifs : List Expr} {own : List (Str × Nat)} {pos : Pos} {ui : DI} {gt : DG} {ut : DT} {ue : DE} (hc : X.calm = true) (hN : X.N.Nodup) (hi : XI X tg iter ui) (ok : BlkOk X.N X.env.scope scope own)
    (hg : LcT X scope (own.map (·.2)) tg gt) (ht : ∀ (s : Shared) (H : Hp) (C : Addr) (cl : List (Str × Addr)) (fp : List Addr), XTs (X.to (X.X.blk s H scope (compEnvC scope cl C X.env) fp)) ifs ut)
    (he : ∀ (s : Shared) (H : Hp) (C : Addr) (cl : List (Str × Addr)) (fp : List Addr), XE (X.to (X.X.blk s H scope (compEnvC scope cl C X.env) fp)) elt ue)
    (hs : ∀ x, foldedSetIterable iter X.env x = pure x := by intro _; rfl) : XE X (.ListComp elt [{ target := tg, iter := iter, ifs := ifs, is_async := 0 }] scope pos) (dLcN ui gt ut ue (own.map (·.2))) := by
  obtain ⟨wi, pi, li⟩ := hi.ex
  obtain ⟨t, pg, lg, og⟩ := hg.ex
  exact ⟨_, pe_lc hc hN pi ok pg (fun s H C cl fp => (ht s H C cl fp).can) (fun s H C cl fp => (he s H C cl fp).can) hs, le_lcN li lg og lt_of le_of⟩
theorem s_setLcN (i : Nat) {y : Str} {py : Pos} {elt tg iter : Expr} {ifs : List Expr} {own : List (Str × Nat)} {pos spos : Pos} {ui : DI} {gt : DG} {ut : DT} {ue : DE} (hc : X.calm = true) (hN : X.N.Nodup) (hi : XI X tg iter ui) (ok : BlkOk X.N X.env.scope scope own)
    (hg : LcT X scope (own.map (·.2)) tg gt) (ht : ∀ (s : Shared) (H : Hp) (C : Addr) (cl : List (Str × Addr)) (fp : List Addr), XTs (X.to (X.X.blk s H scope (compEnvC scope cl C X.env) fp)) ifs ut)
    (he : ∀ (s : Shared) (H : Hp) (C : Addr) (cl : List (Str × Addr)) (fp : List Addr), XE (X.to (X.X.blk s H scope (compEnvC scope cl C X.env) fp)) elt ue)
    (hw : swapsWith (elt.ListComp [{ target := tg, iter := iter, ifs := ifs, is_async := 0 }] scope pos) (some (Expr.Name y py)) spos.line X.env = pure true)
    (hy : X.N[i]? = some y := by rfl) (hyl : X.env.scope.names.lookup y = some .local := by rfl)
    (hs : ∀ x, foldedSetIterable iter X.env x = pure x := by intro _; rfl) :
    XS X (.Assign [.Name y py] (.ListComp elt [{ target := tg, iter := iter, ifs := ifs, is_async := 0 }] scope pos) spos) (dAsg (dLcN ui gt ut ue (own.map (·.2))) (dgN i)) := by
  obtain ⟨wi, pi, li⟩ := hi.ex
  obtain ⟨t, pg, lg, og⟩ := hg.ex
  exact ⟨_, ps_setLc hc hN hy hyl hw pi ok pg (fun s H C cl fp => (ht s H C cl fp).can) (fun s H C cl fp => (he s H C cl fp).can) hs,
    le_asg (le_lcN li lg og lt_of le_of) fun g H σ ds M d v r s rd Q q R k => k g H _ _ M (Gx.refl g H) r (s.set rd i) q⟩
end
/-! ### pop, insert -/
section
variable {K : KB}
theorem RelL.del {g : G} : ∀ {ds : List D} {vs : List V} (n : Nat), RelL K g ds vs → RelL K g (ds.eraseIdx n) (vs.eraseIdx n)
  | _, _, _, .nil => .nil
  | _ :: _, _ :: _, 0, .cons _ h => h
  | _ :: _, _ :: _, n + 1, .cons h1 h => .cons h1 (RelL.del n h)
theorem RelL.front {g : G} {ds : List D} {vs : List V} (h : RelL K g ds vs) : RelL K g ds.dropLast vs.dropLast := by
  rw [List.dropLast_eq_take, List.dropLast_eq_take, h.len]
  exact h.take _
def popAtD : DMt := fun x vs M Q => match x with
  | .loc n => match M[n]? with
    | some (.lst xs) => match vs with
      | [.int i] => -(2 ^ 63) ≤ i ∧ i < 2 ^ 63 ∧ match ixN xs.length i with
        | some k => match xs[k]? with
          | some y => Q y (M.set n (.lst (xs.eraseIdx k)))
          | none => False
        | none => False
      | _ => False
    | _ => False
  | _ => False
theorem lmPopAt : LMt K rPopAt popAtD := fun g H M x v xs vs r rx rl Q q R k => by
  cases rx with
  | loc h1 =>
    rename_i n p
    unfold popAtD at q
    simp only at q
    split at q
    · rename_i ys e
      obtain ⟨f, ws, hv, rw'⟩ := r.ob n p _ h1 e
      split at q
      · rename_i i
        cases rl with
        | cons h2 h3 =>
          cases h3
          cases h2
          obtain ⟨i1, i2, q⟩ := q
          split at q
          · rename_i j hj
            split at q
            · rename_i y hy
              obtain ⟨w, hw, rw2⟩ := rw'.got hy
              obtain ⟨xx, rr⟩ := r.put (o := .lst (ws.eraseIdx j)) (mo := .lst (ys.eraseIdx j)) h1 f ⟨f, _, upd_same, rw'.del j⟩
              refine ⟨p, ws, i, j, w, rfl, rfl, hv, i1, i2, ?_, hw, k g _ _ _ _ xx rr rw2 q⟩
              rw [← rw'.len]
              exact (ixN_seq hj).1
            · exact q.elim
          · exact q.elim
      · exact q.elim
    · exact q.elim
  | _ => exact q.elim
def popD : DMt := fun x vs M Q => match x with
  | .loc n => match M[n]? with
    | some (.lst xs) => match vs with
      | [] => match xs[xs.length - 1]? with
        | some y => Q y (M.set n (.lst xs.dropLast))
        | none => False
      | _ => False
    | _ => False
  | _ => False
theorem lmPop : LMt K rPop popD := fun g H M x v xs vs r rx rl Q q R k => by
  cases rx with
  | loc h1 =>
    rename_i n p
    unfold popD at q
    simp only at q
    split at q
    · rename_i ys e
      obtain ⟨f, ws, hv, rw'⟩ := r.ob n p _ h1 e
      split at q
      · cases rl
        split at q
        · rename_i y hy
          obtain ⟨w, hw, rw2⟩ := rw'.got hy
          obtain ⟨xx, rr⟩ := r.put (o := .lst ws.dropLast) (mo := .lst ys.dropLast) h1 f ⟨f, _, upd_same, rw'.front⟩
          exact ⟨p, ws, w, rfl, rfl, hv, by rw [← rw'.len]; exact hw, k g _ _ _ _ xx rr rw2 q⟩
        · exact q.elim
      · exact q.elim
    · exact q.elim
  | _ => exact q.elim
def insD : DMt := fun x vs M Q => match x with
  | .loc n => match M[n]? with
    | some (.lst xs) => match vs with
      | [.int i, y] => xs.length < sizeLine ∧ 0 ≤ i ∧ i < 2 ^ 63 ∧ Q .non (M.set n (.lst (xs.take i.toNat ++ [y] ++ xs.drop i.toNat)))
      | _ => False
    | _ => False
  | _ => False
theorem lmIns : LMt K (fun x vs H Q => ∃ (l : Addr) (xs : List V) (i : Int) (y : V), x = .ref l ∧ vs = [.int i, y] ∧ H l = some (.lst xs) ∧ xs.length < sizeLine ∧ 0 ≤ i ∧ i < 2 ^ 63 ∧
    Q .non (upd H l (.lst (xs.take i.toNat ++ [y] ++ xs.drop i.toNat)))) insD := fun g H M x v xs vs r rx rl Q q R k => by
  cases rx with
  | loc h1 =>
    rename_i n p
    unfold insD at q
    simp only at q
    split at q
    · rename_i ys e
      obtain ⟨f, ws, hv, rw'⟩ := r.ob n p _ h1 e
      split at q
      · rename_i i y
        cases rl with
        | cons h2 h3 =>
          cases h2
          cases h3 with
          | cons h4 h5 =>
            cases h5
            obtain ⟨i1, i2, i3, q⟩ := q
            obtain ⟨xx, rr⟩ := r.put (o := .lst (ws.take i.toNat ++ [_] ++ ws.drop i.toNat)) (mo := .lst (ys.take i.toNat ++ [y] ++ ys.drop i.toNat)) h1 f ⟨f, _, upd_same, ((rw'.take _).app (.cons h4 .nil)).app (rw'.drop _)⟩
            exact ⟨p, ws, i, _, rfl, rfl, hv, by rw [← rw'.len]; exact i1, i2, i3, k g _ _ _ _ xx rr .non q⟩
      · exact q.elim
    · exact q.elim
  | _ => exact q.elim
end
section
variable {X : CB} {uo : DE} {ua' : DA} {o e e2 : Expr} {apos cpos : Pos}
theorem xpopAt (ho : XE X o uo) (ha : XA X [e] ua')
    (hbase : attributeBase o "pop" X.env (eval o X.env) = eval o X.env := by rfl)
    (hfew : ((backTo cpos (starEach [e] X.env)).all (fun x => !x.1) && (backToKw cpos (keywordEach [] X.env)).all (fun x => x.1.isSome)
      && decide (([e] : List Expr).length + ([] : List Keyword).length + (if ([] : List Keyword).isEmpty then 0 else 1) < 30)) = true := by rfl)
    (hline : (apos.endLine == cpos.line) = true := by rfl) (hs : starEach [e] X.env = (false, eval e X.env) :: starEach [] X.env := by rfl) (hplain : (backTo cpos (starEach [] X.env)).any (·.1) = false := by rfl) :
    XE X (.Call (.Attribute o "pop" apos) [e] [] cpos) (dBM "list" popAtD uo ua') :=
  xbm PySem.F.plainAttrs_list PySem.F.slot_list_pop PySem.F.type_list_pop mt_popAt lmPopAt ho ha hbase hfew hline hs hplain
theorem xpop (ho : XE X o uo) (hbase : attributeBase o "pop" X.env (eval o X.env) = eval o X.env := by rfl) (hline : (apos.endLine == cpos.line) = true := by rfl) : XE X (.Call (.Attribute o "pop" apos) [] [] cpos) (dBM "list" popD uo dNil) :=
  xbm0 PySem.F.plainAttrs_list PySem.F.slot_list_pop PySem.F.type_list_pop mt_pop lmPop ho hbase hline
theorem xins (ho : XE X o uo) (ha : XA X [e, e2] ua')
    (hbase : attributeBase o "insert" X.env (eval o X.env) = eval o X.env := by rfl)
    (hfew : ((backTo cpos (starEach [e, e2] X.env)).all (fun x => !x.1) && (backToKw cpos (keywordEach [] X.env)).all (fun x => x.1.isSome)
      && decide (([e, e2] : List Expr).length + ([] : List Keyword).length + (if ([] : List Keyword).isEmpty then 0 else 1) < 30)) = true := by rfl)
    (hline : (apos.endLine == cpos.line) = true := by rfl) (hs : starEach [e, e2] X.env = (false, eval e X.env) :: starEach [e2] X.env := by rfl) (hplain : (backTo cpos (starEach [e2] X.env)).any (·.1) = false := by rfl) :
    XE X (.Call (.Attribute o "insert" apos) [e, e2] [] cpos) (dBM "list" insD uo ua') :=
  xbm PySem.F.plainAttrs_list PySem.F.slot_list_insert PySem.F.type_list_insert mt_insert lmIns ho ha hbase hfew hline hs hplain
end
end AX

/-! objects of own classes: fields, methods, made -/
namespace AX
open PySem PySem.Spec PyProof.Rows L2
/-- where the classes stand -/
abbrev CL := Nat → Addr
/-- a class of the module and the fields of its objects, in the order in which they are made -/
structure ClsK (K : PySem.W.Frag) (C : Addr) (fs : List Str) : Prop where
  c : Cls K C
  n : ∀ f ∈ fs, NoAttr K C f
  d : fs.Nodup
section
variable {K : PySem.W.Frag} {g : G}
theorem RelP.names {ds : List (Str × D)} {vs : List (Str × V)} (r : RelP K g ds vs) : vs.map (·.1) = ds.map (·.1) := by
  induction r with
  | nil => rfl
  | cons h r ih => rw [List.map_cons, List.map_cons, ih]
theorem RelP.find {ds : List (Str × D)} {vs : List (Str × V)} (r : RelP K g ds vs) : ∀ {i : Nat} {fd : Str × D}, (ds.map (·.1)).Nodup → ds[i]? = some fd → ∃ v, vs.lookup fd.1 = some v ∧ RelD K g fd.2 v := by
  induction r with
  | nil => intro i fd _ h; simp at h
  | cons h r ih =>
    rename_i k d v ds vs
    intro i fd nd e
    rw [List.map_cons, List.nodup_cons] at nd
    cases i with
    | zero =>
      simp only [List.getElem?_cons_zero, Option.some.injEq] at e
      subst e
      exact ⟨v, by simp [List.lookup], h⟩
    | succ i =>
      rw [List.getElem?_cons_succ] at e
      obtain ⟨w, hw, rw'⟩ := ih nd.2 e
      refine ⟨w, ?_, rw'⟩
      have hm : fd.1 ∈ ds.map (·.1) := List.mem_map.mpr ⟨fd, List.mem_of_getElem? e, rfl⟩
      have hne : (fd.1 == k) = false := by
        rw [beq_eq_false_iff_ne]
        intro z
        exact nd.1 (z ▸ hm)
      rw [List.lookup_cons, hne]
      exact hw
theorem lookup_none {vs : List (Str × V)} {m : Str} (h : m ∉ vs.map (·.1)) : vs.lookup m = none := by
  induction vs with
  | nil => rfl
  | cons p r ih =>
    obtain ⟨k, v⟩ := p
    rw [List.map_cons, List.mem_cons, not_or] at h
    have hne : (m == k) = false := by
      rw [beq_eq_false_iff_ne]
      exact h.1
    rw [List.lookup_cons, hne]
    exact ih h.2
/-- a field is set: one that stands already, or the next one -/
def putD : Nat → Str → D → List (Str × D) → List (Str × D)
  | _, f, d, [] => [(f, d)]
  | 0, f, d, _ :: r => (f, d) :: r
  | i + 1, f, d, p :: r => p :: putD i f d r
theorem putD_nil {i : Nat} {f : Str} {d : D} : putD i f d [] = [(f, d)] := by cases i <;> rfl
theorem putD_zero {f : Str} {d : D} {p : Str × D} {r : List (Str × D)} : putD 0 f d (p :: r) = (f, d) :: r := rfl
theorem putD_succ {i : Nat} {f : Str} {d : D} {p : Str × D} {r : List (Str × D)} : putD (i + 1) f d (p :: r) = p :: putD i f d r := rfl
theorem RelP.putO {f : Str} {d : D} {v : V} (h : RelD K g d v) {ds : List (Str × D)} {vs : List (Str × V)} (r : RelP K g ds vs) : ∀ {ns : List Str} {i : Nat}, ns.Nodup → ns[i]? = some f → ds.map (·.1) = ns.take ds.length → i ≤ ds.length → RelP K g (putD i f d ds) (putF f v vs) := by
  induction r with
  | nil =>
    intro ns i nd hi hn hl
    rw [putD_nil]
    exact .cons h .nil
  | cons h0 r ih =>
    rename_i k d0 v0 ds vs
    intro ns i nd hi hn hl
    cases ns with
    | nil => simp at hi
    | cons n ns =>
      rw [List.map_cons, List.length_cons, List.take_succ_cons, List.cons.injEq] at hn
      obtain ⟨e1, e2⟩ := hn
      simp only at e1
      subst e1
      rw [List.nodup_cons] at nd
      cases i with
      | zero =>
        simp only [List.getElem?_cons_zero, Option.some.injEq] at hi
        subst hi
        rw [putD_zero]
        unfold putF
        rw [if_pos rfl]
        exact .cons h r
      | succ i =>
        rw [List.getElem?_cons_succ] at hi
        have hne : ¬ k = f := fun z => nd.1 (z ▸ List.mem_of_getElem? hi)
        have q := ih nd.2 hi e2 (by rw [List.length_cons] at hl; omega)
        unfold putF
        rw [if_neg hne, putD_succ]
        exact .cons h0 q
end
/-! ### fields -/
def fitF (C' C : Addr) (ns : List Str) (fs : List (Str × D)) : Prop := C' = C ∧ fs.map (·.1) = ns
def okF (C' C : Addr) (ns : List Str) (i : Nat) (fs : List (Str × D)) : Prop := C' = C ∧ fs.map (·.1) = ns.take fs.length ∧ i ≤ fs.length ∧ fs.length < 1000
def dFld (C : Addr) (ns : List Str) (i : Nat) (ue : DE) : DE := fun ds M Q => ue ds M fun x M1 => match x with
  | .loc n => match M1[n]? with
    | some (.ins C' fs) => fitF C' C ns fs ∧ match fs[i]? with
      | some fd => Q fd.2 M1
      | none => False
    | _ => False
  | _ => False
def dgFld (C : Addr) (ns : List Str) (i : Nat) (f : Str) (uo : DE) : DG := fun d ds M Q => uo ds M fun x M1 => match x with
  | .loc n => match M1[n]? with
    | some (.ins C' fs) => okF C' C ns i fs ∧ Q ds (M1.set n (.ins C' (putD i f d fs)))
    | _ => False
  | _ => False
section
variable {X : CB} {C : Addr} {ns : List Str} {e o : Expr} {ue uo : DE} {f : Str} {pos : Pos}
theorem xfld (i : Nat) (T : ClsK X.X.K C ns) (h : XE X e ue) (hi : ns[i]? = some f := by rfl) (hb : attributeBase e f X.env (eval e X.env) = eval e X.env := by rfl) : XE X (.Attribute e f pos) (dFld C ns i ue) := by
  obtain ⟨t, p, l⟩ := h.ex
  refine ⟨_, pe_fld p hb, fun g H σ ds M r s Q q R k => l g H σ ds M r s _ q _ fun g1 H1 M1 x v x1 r1 rx q1 => ?_⟩
  simp only at q1
  split at q1
  · rename_i n
    cases rx with
    | loc h1 =>
      rename_i p
      split at q1
      · rename_i C' fs e
        obtain ⟨⟨rfl, hn⟩, q2⟩ := q1
        split at q2
        · rename_i fd hfd
          obtain ⟨_, dx, vs, hv, rp⟩ := r1.ob n p _ h1 e
          have ef : fd.1 = f := by
            have z : (fs.map (·.1))[i]? = some fd.1 := by rw [List.getElem?_map, hfd]; rfl
            rw [hn, hi] at z
            exact (Option.some.inj z).symm
          obtain ⟨w, hw, rw'⟩ := rp.find (by rw [hn]; exact T.d) hfd
          rw [ef] at hw
          exact ⟨p, C', dx, vs, w, rfl, hv, T.c, T.n f (List.mem_of_getElem? hi), hw, k g1 H1 M1 _ _ x1 r1 rw' q2⟩
        · exact q2.elim
      · exact q1.elim
  · exact q1.elim
theorem pg_fld {Y : Cx} {o : Expr} {to : TE} {f : Str} {pos : Pos} (ho : PE Y o to) : PG Y (.Attribute o f pos) (fun y σ H Q => to σ H fun x H2 => ∃ a C dx fs, x = .ref a ∧ H2 a = some (.ins C dx fs) ∧ Cls Y.K C ∧ NoAttr Y.K C f ∧ fs.length < 1000 ∧ Q σ (upd H2 a (.ins C dx (putF f y fs)))) := by
  refine ⟨fun pins s σ H v u Q I r h => ?_⟩
  rw [assign_Attribute]
  refine wpAny_bind (wpAny_holding (thn (ho.run pins s σ H _ I h) fun ov s1 ⟨x, H1, I1, r1, a, C, dx, fs, ex, ea, c, n, l, q⟩ => ?_))
  subst ex
  obtain rfl : ov = Value.ref a := r1
  refine wpAny_bind (wpAny_standAt (wpAny_bind (wpAny_holding (setattr_ok I1 ea c n l r fun s3 I3 => ?_))))
  exact wpAny_release ⟨σ, _, I3, q⟩
theorem g_fld (i : Nat) (T : ClsK X.X.K C ns) (h : XE X o uo) (hi : ns[i]? = some f := by rfl) : XG X (.Attribute o f pos) (dgFld C ns i f uo) := by
  obtain ⟨t, p, l⟩ := h.ex
  refine ⟨_, pg_fld p, fun g H σ ds M d v r s rd Q q R k => l g H σ ds M r s _ q _ fun g1 H1 M1 x w x1 r1 rx q1 => ?_⟩
  simp only at q1
  split at q1
  · rename_i n
    cases rx with
    | loc h1 =>
      rename_i p
      split at q1
      · rename_i C' fs e
        obtain ⟨⟨rfl, hn, hl, h9⟩, q2⟩ := q1
        obtain ⟨f0, dx, vs, hv, rp⟩ := r1.ob n p _ h1 e
        have rp2 := RelP.putO (rd.mono x1.gr) rp T.d hi hn hl
        obtain ⟨xx, rr⟩ := r1.put (o := .ins C' dx (putF f v vs)) (mo := .ins C' (putD i f d fs)) h1 f0 ⟨f0, dx, _, upd_same, rp2⟩
        exact ⟨p, C', dx, vs, rfl, hv, T.c, T.n f (List.mem_of_getElem? hi), by rw [← rp.len]; exact h9, k g1 _ σ ds _ (x1.trans xx) rr (s.mono (x1.trans xx).gr) q2⟩
      · exact q1.elim
  · exact q1.elim
end
/-! ### methods -/
/-- what is known of a method -/
structure KnownM (P : Program) (w : World) (K : PySem.W.Frag) (mg : Str → Option Value) (base : Heap) (k : Nat) (C : Addr) (m : Str) (ps : List Str) (sp : DSp) : Prop where
  ex : ∃ f fd, FnOk P w K mg base CX0 k f fd ps (liftSp K sp) ∧ Meth K C m f ∧ Binds K fd ps []
structure KnownMX (P : Program) (w : World) (K : PySem.W.Frag) (mg : Str → Option Value) (base : Heap) (k : Nat) (C : Addr) (m : Str) (ps : List Str) (sp : DSpX) : Prop where
  ex : ∃ f fd, FnOk P w K mg base (L2.CX P w) k f fd ps (liftSpX K mg sp) ∧ Meth K C m f ∧ Binds K fd ps []
structure KnownI (P : Program) (w : World) (K : PySem.W.Frag) (mg : Str → Option Value) (base : Heap) (k : Nat) (x : Str) (C : Addr) (ps : List Str) (sp : DSp) : Prop where
  ex : ∃ f fd, FnOk P w K mg base CX0 k f fd ps (liftSp K sp) ∧ mg x = some (.ref C) ∧ Mk K C f ∧ Binds K fd ps []
/-- the object of a method call -/
def insOf (C : Addr) (ns : List Str) (x : D) (M : MM) : Prop := match x with
  | .loc n => match M[n]? with
    | some (.ins C' fs) => fitF C' C ns fs
    | _ => False
  | _ => False
def dMeth (C : Addr) (ns : List Str) (sp : DSp) (uo : DE) (ua : DA) : DE := fun ds M Q => uo ds M fun x M1 => insOf C ns x M1 ∧ ua ds M1 fun xs M2 => sp (x :: xs) M2 Q
def dMethX (C : Addr) (ns : List Str) (sp : DSpX) (wd : DWX) (uo : DE) (ua : DA) : DE := fun ds M Q => uo ds M fun x M1 => insOf C ns x M1 ∧ ua ds M1 fun xs M2 => sp (x :: xs) M2 Q (wd ds)
def dMake (C : Addr) (sp : DSp) (ua : DA) : DE := fun ds M Q => ua ds M fun xs M1 => sp (.loc M1.length :: xs) (M1 ++ [.ins C []]) fun d M2 => d = .non ∧ Q (.loc M1.length) M2
section
variable {K : KB} {C : Addr} {ns : List Str}
theorem insOf_rel {g : G} {H : Hp} {M : MM} {x : D} {v : V} {m : Str} (hm : m ∉ ns) (r : RelM K g H M) (rx : RelD K g x v) (h : insOf C ns x M) : ∃ a dx fs, v = .ref a ∧ H a = some (.ins C dx fs) ∧ fs.lookup m = none := by
  unfold insOf at h
  split at h
  · rename_i n
    cases rx with
    | loc h1 =>
      rename_i p
      split at h
      · rename_i C' fs e
        obtain ⟨rfl, hn⟩ := h
        obtain ⟨_, dx, vs, hv, rp⟩ := r.ob n p _ h1 e
        exact ⟨p, dx, vs, rfl, hv, lookup_none (by rw [rp.names, hn]; exact hm)⟩
      · exact h.elim
  · exact h.elim
end
def tMethS (C : Addr) (m : Str) (sp : Sp) (E : L2.St → XK) (ta : TE) (t : TA) : TE := fun σ H Q => ta σ H fun x H1 => ∃ a dx fs, x = .ref a ∧ H1 a = some (.ins C dx fs) ∧ fs.lookup m = none ∧ t σ H1 fun vs H2 => sp (x :: vs) H2 Q (E σ)
section
variable {X : Cx} {CX : CXT} {k : Nat} {f C : Addr} {fd : FuncData} {ps : List Str} {sp : Sp} {E : L2.St → XK} {m : Str} {pos apos : Pos} {e o : Expr} {es : List Expr} {ta : TE} {t : TA}
theorem pe_methS {pl : Sem Bool} (he : PE X o ta) (c : Cls X.K C) (hm : Meth X.K C m f) (F : FnOk X.prog X.w X.K X.mg X.base CX k f fd ps sp) (hr : Room k X.A) (hb : Binds X.K fd ps []) (hx : ∀ σ, PassesAt CX X σ (E σ)) (ha : PA X (e :: es) t)
    (hst : starEach (e :: es) X.env = (false, eval e X.env) :: starEach es X.env := by rfl) (hpl : (backTo pos (starEach es X.env)).any (·.1) = false := by rfl)
    (ht : eval (.Call (.Attribute o m apos) (e :: es) [] pos) X.env = (do
      let ov ← eval o X.env
      standAt apos.atName
      let (f, first) ← holding [ov] (getMethod ov m pl)
      callWith pos f first (backTo pos (starEach (e :: es) X.env)) (backToKw pos (keywordEach [] X.env))) := by rfl) :
    PE X (.Call (.Attribute o m apos) (e :: es) [] pos) (tMethS C m sp E ta t) := by
  refine ⟨fun pins s σ H Q I h => ?_⟩
  refine PySem.W.methodCall_KW (pl := pl) (thn (he.run pins s σ H _ I h) fun u s1 ⟨x, H1, I1, rx, a, dx, fs, ex, ea, l, q⟩ => ?_) ht
  subst ex
  obtain rfl : u = Value.ref a := rx
  refine getmeth_ok I1 ea c hm l ?_
  refine PySem.W.callWith_K (first := [.ref a]) (h₀ := X.base) I.ok.mod.kin hm.kp (thn (ha.run pos pins s1 σ H1 _ I1 q) fun us s2 ⟨vs, H2, I2, r, q2⟩ => ⟨I2.kIn, ?_⟩) hst hpl
  exact run_fnS (us := .ref a :: us) (vs := .ref a :: vs) F hr hb (hx σ) I2 (.cons rfl r) q2
theorem pe_methS0 {pl : Sem Bool} (he : PE X o ta) (c : Cls X.K C) (hm : Meth X.K C m f) (F : FnOk X.prog X.w X.K X.mg X.base CX k f fd ps sp) (hr : Room k X.A) (hb : Binds X.K fd ps []) (hx : ∀ σ, PassesAt CX X σ (E σ))
    (ht : eval (.Call (.Attribute o m apos) [] [] pos) X.env = (do
      let ov ← eval o X.env
      standAt apos.atName
      let (f, first) ← holding [ov] (getMethod ov m pl)
      callWith pos f first (backTo pos (starEach [] X.env)) (backToKw pos (keywordEach [] X.env))) := by rfl) :
    PE X (.Call (.Attribute o m apos) [] [] pos) (tMethS C m sp E ta tNil) := by
  refine ⟨fun pins s σ H Q I h => ?_⟩
  refine PySem.W.methodCall_KW (pl := pl) (thn (he.run pins s σ H _ I h) fun u s1 ⟨x, H1, I1, rx, a, dx, fs, ex, ea, l, q⟩ => ?_) ht
  subst ex
  obtain rfl : u = Value.ref a := rx
  refine getmeth_ok I1 ea c hm l ?_
  exact PySem.W.callWith_K0 (first := [.ref a]) I1.kIn hm.kp (run_fnS (us := [.ref a]) (vs := [.ref a]) F hr hb (hx σ) I1 (.cons rfl .nil) q)
end
section
variable {X : CB} {k : Nat} {C : Addr} {ns ps : List Str} {sp : DSp} {spx : DSpX} {m x : Str} {p pos apos : Pos} {e o : Expr} {es : List Expr} {uo : DE} {ua : DA} {wd : DWX}
theorem xmeth {pl : Sem Bool} (T : ClsK X.X.K C ns) (G : KnownM X.prog X.w X.X.K X.mg X.base k C m ps sp) (hr : Room k X.A) (ho : XE X o uo) (ha : XA X (e :: es) ua) (hm : m ∉ ns := by decide)
    (hst : starEach (e :: es) X.env = (false, eval e X.env) :: starEach es X.env := by rfl) (hpl : (backTo pos (starEach es X.env)).any (·.1) = false := by rfl)
    (ht : eval (.Call (.Attribute o m apos) (e :: es) [] pos) X.env = (do
      let ov ← eval o X.env
      standAt apos.atName
      let (f, first) ← holding [ov] (getMethod ov m pl)
      callWith pos f first (backTo pos (starEach (e :: es) X.env)) (backToKw pos (keywordEach [] X.env))) := by rfl) : XE X (.Call (.Attribute o m apos) (e :: es) [] pos) (dMeth C ns sp uo ua) := by
  obtain ⟨f, fd, F, hM, hb⟩ := G.ex
  obtain ⟨t1, p1, l1⟩ := ho.ex
  obtain ⟨t2, p2, l2⟩ := ha.ex
  refine ⟨_, pe_meth p1 T.c hM F hr hb .nil pass0 p2 hst hpl ht, fun g H σ ds M r s Q q R kk => l1 g H σ ds M r s _ q _ fun g1 H1 M1 x v x1 r1 rx q1 => ?_⟩
  obtain ⟨a, dx, fs, e1, e2, e3⟩ := insOf_rel hm r1 rx q1.1
  refine ⟨a, dx, fs, e1, e2, e3, l2 g1 H1 σ ds M1 r1 (s.mono x1) _ q1.2 _ fun g2 H2 M2 xs vs x2 r2 rl q2 => ?_⟩
  rw [List.append_nil]
  exact ⟨g2, M2, x :: xs, Q, r2.start, .cons (rx.mono x2) rl, q2, PostE.base r2 (x1.trans x2) kk⟩
theorem xmeth0 {pl : Sem Bool} (T : ClsK X.X.K C ns) (G : KnownM X.prog X.w X.X.K X.mg X.base k C m ps sp) (hr : Room k X.A) (ho : XE X o uo) (hm : m ∉ ns := by decide)
    (ht : eval (.Call (.Attribute o m apos) [] [] pos) X.env = (do
      let ov ← eval o X.env
      standAt apos.atName
      let (f, first) ← holding [ov] (getMethod ov m pl)
      callWith pos f first (backTo pos (starEach [] X.env)) (backToKw pos (keywordEach [] X.env))) := by rfl) : XE X (.Call (.Attribute o m apos) [] [] pos) (dMeth C ns sp uo dNil) := by
  obtain ⟨f, fd, F, hM, hb⟩ := G.ex
  obtain ⟨t1, p1, l1⟩ := ho.ex
  refine ⟨_, pe_meth0 p1 T.c hM F hr hb .nil pass0 ht, fun g H σ ds M r s Q q R kk => l1 g H σ ds M r s _ q _ fun g1 H1 M1 x v x1 r1 rx q1 => ?_⟩
  obtain ⟨a, dx, fs, e1, e2, e3⟩ := insOf_rel hm r1 rx q1.1
  exact ⟨a, dx, fs, e1, e2, e3, g1, M1, [x], Q, r1.start, .cons rx .nil, q1.2, PostE.base r1 x1 kk⟩
theorem xmethX {pl : Sem Bool} (T : ClsK X.X.K C ns) (G : KnownMX X.prog X.w X.X.K X.mg X.base k C m ps spx) (hr : Room k X.A) (hF : Flies X wd) (ho : XE X o uo) (ha : XA X (e :: es) ua) (hm : m ∉ ns := by decide)
    (hst : starEach (e :: es) X.env = (false, eval e X.env) :: starEach es X.env := by rfl) (hpl : (backTo pos (starEach es X.env)).any (·.1) = false := by rfl)
    (ht : eval (.Call (.Attribute o m apos) (e :: es) [] pos) X.env = (do
      let ov ← eval o X.env
      standAt apos.atName
      let (f, first) ← holding [ov] (getMethod ov m pl)
      callWith pos f first (backTo pos (starEach (e :: es) X.env)) (backToKw pos (keywordEach [] X.env))) := by rfl) : XE X (.Call (.Attribute o m apos) (e :: es) [] pos) (dMethX C ns spx wd uo ua) := by
  obtain ⟨f, fd, F, hM, hb⟩ := G.ex
  obtain ⟨t1, p1, l1⟩ := ho.ex
  obtain ⟨t2, p2, l2⟩ := ha.ex
  obtain ⟨W, tk, hW⟩ := hF.ex
  refine ⟨_, pe_methS p1 T.c hM F hr hb (passAt tk) p2 hst hpl ht, fun g H σ ds M r s Q q R kk => l1 g H σ ds M r s _ q _ fun g1 H1 M1 x v x1 r1 rx q1 => ?_⟩
  obtain ⟨a, dx, fs, e1, e2, e3⟩ := insOf_rel hm r1 rx q1.1
  refine ⟨a, dx, fs, e1, e2, e3, l2 g1 H1 σ ds M1 r1 (s.mono x1) _ q1.2 _ fun g2 H2 M2 xs vs x2 r2 rl q2 => ?_⟩
  exact ⟨g2, M2, x :: xs, Q, wd ds, r2.start, .cons (rx.mono x2) rl, q2, PostE.base r2 (x1.trans x2) kk, fun g' H' M' cls d nm at_ y r' rx' e => hW g' H' σ ds M' cls d nm at_ (r'.base rfl (r2.up.trans y)) ((s.mono (x1.trans x2).gr).mono y.gr) rx' e⟩
theorem xmethX0 {pl : Sem Bool} (T : ClsK X.X.K C ns) (G : KnownMX X.prog X.w X.X.K X.mg X.base k C m ps spx) (hr : Room k X.A) (hF : Flies X wd) (ho : XE X o uo) (hm : m ∉ ns := by decide)
    (ht : eval (.Call (.Attribute o m apos) [] [] pos) X.env = (do
      let ov ← eval o X.env
      standAt apos.atName
      let (f, first) ← holding [ov] (getMethod ov m pl)
      callWith pos f first (backTo pos (starEach [] X.env)) (backToKw pos (keywordEach [] X.env))) := by rfl) : XE X (.Call (.Attribute o m apos) [] [] pos) (dMethX C ns spx wd uo dNil) := by
  obtain ⟨f, fd, F, hM, hb⟩ := G.ex
  obtain ⟨t1, p1, l1⟩ := ho.ex
  obtain ⟨W, tk, hW⟩ := hF.ex
  refine ⟨_, pe_methS0 p1 T.c hM F hr hb (passAt tk) ht, fun g H σ ds M r s Q q R kk => l1 g H σ ds M r s _ q _ fun g1 H1 M1 x v x1 r1 rx q1 => ?_⟩
  obtain ⟨a, dx, fs, e1, e2, e3⟩ := insOf_rel hm r1 rx q1.1
  exact ⟨a, dx, fs, e1, e2, e3, g1, M1, [x], Q, wd ds, r1.start, .cons rx .nil, q1.2, PostE.base r1 x1 kk, fun g' H' M' cls d nm at_ y r' rx' e => hW g' H' σ ds M' cls d nm at_ (r'.base rfl (r1.up.trans y)) ((s.mono x1.gr).mono y.gr) rx' e⟩
theorem make_rel {K : KB} {g : G} {H : Hp} {M : MM} {xs : List D} {vs : List V} {a dx : Addr} (r : RelM K g H M) (rl : RelL K g xs vs) (ha : H a = none) (hd : H dx = none) (hne : dx ≠ a) (C : Addr) :
    ∃ g2, Gx g H g2 (upd (upd H dx (.own a)) a (.ins C dx [])) ∧ RelM K g2 (upd (upd H dx (.own a)) a (.ins C dx [])) (M ++ [.ins C []]) ∧ RelD K g2 (.loc M.length) (.ref a) ∧ RelL K g2 xs vs := by
  have h0 := r.free0 hd
  have n1 : dx ∉ g.as := fun h => by
    obtain ⟨o, e⟩ := r.tk dx h
    rw [hd] at e
    cases e
  have r1 : RelM K g (upd H dx (.own a)) M := r.aside h0 n1 (r.ex.free hd)
  have x1 : Gx g H g (upd H dx (.own a)) := (Gx.refl g H).aside hd
  have ha1 : (upd H dx (.own a)) a = none := by rw [upd_ne (Ne.symm hne)]; exact ha
  obtain ⟨x2, r2, e2⟩ := r1.push (o := .ins C dx []) (mo := .ins C []) ha1 fun g' x f => ⟨f, dx, [], upd_same, .nil⟩
  exact ⟨_, x1.trans x2, r2, .loc e2, rl.mono x2.gr⟩
theorem xmake (G : KnownI X.prog X.w X.X.K X.mg X.base k x C ps sp) (hr : Room (k + 1) X.A) (ha : XA X (e :: es) ua) (hg : Gl X x := by rfl) (hd : (x == ("__debug__" : Str)) = false := by decide)
    (he : starEach (e :: es) X.env = (false, eval e X.env) :: starEach es X.env := by rfl) (hpl : (backTo pos (starEach es X.env)).any (·.1) = false := by rfl) : XE X (.Call (.Name x p) (e :: es) [] pos) (dMake C sp ua) := by
  obtain ⟨f, fd, F, hm, hk, hb⟩ := G.ex
  obtain ⟨t, pa, l⟩ := ha.ex
  refine ⟨_, pe_make hk F hr hg hm hb .nil pass0 pa hd he hpl, fun g H σ ds M r s Q q R kk => l g H σ ds M r s _ q _ fun g1 H1 M1 xs vs x1 r1 rl q1 y dx hy hdx hne => ?_⟩
  obtain ⟨g2, x2, r2, rd, rl2⟩ := make_rel r1 rl hy hdx hne C
  rw [List.append_nil]
  refine ⟨g2, _, .loc M1.length :: xs, _, r2.start, .cons rd rl2, q1, fun g' H' M' d v z r' rd' h' => ?_⟩
  obtain ⟨rfl, h'⟩ := h'
  cases rd'
  exact ⟨rfl, PostE.base r2 (x1.trans x2) kk g' H' M' _ _ z r' (rd.mono z.gr) h'⟩
theorem xmake0 (G : KnownI X.prog X.w X.X.K X.mg X.base k x C ps sp) (hr : Room (k + 1) X.A) (hg : Gl X x := by rfl) (hd : (x == ("__debug__" : Str)) = false := by decide) : XE X (.Call (.Name x p) [] [] pos) (dMake C sp dNil) := by
  obtain ⟨f, fd, F, hm, hk, hb⟩ := G.ex
  refine ⟨_, pe_make0 hk F hr hg hm hb .nil pass0 hd, fun g H σ ds M r s Q q R kk y dx hy hdx hne => ?_⟩
  obtain ⟨g2, x2, r2, rd, rl2⟩ := make_rel r (.nil : RelL X.K g [] []) hy hdx hne C
  refine ⟨g2, _, [.loc M.length], _, r2.start, .cons rd .nil, q, fun g' H' M' d v z r' rd' h' => ?_⟩
  obtain ⟨rfl, h'⟩ := h'
  cases rd'
  exact ⟨rfl, PostE.base r2 x2 kk g' H' M' _ _ z r' (rd.mono z.gr) h'⟩
end
/-! ### a maker that may raise -/
def tMakeS (C : Addr) (sp : Sp) (E : L2.St → XK) (t : TA) : TE := fun σ H Q => t σ H fun vs H1 => ∀ x dx, H1 x = none → H1 dx = none → dx ≠ x →
  sp (.ref x :: vs) (upd (upd H1 dx (.own x)) x (.ins C dx [])) (fun v H2 => v = .non ∧ Q (.ref x) H2) (E σ)
section
variable {X : Cx} {CX : CXT} {k : Nat} {f C : Addr} {fd : FuncData} {ps : List Str} {sp : Sp} {E : L2.St → XK} {x : Str} {p pos : Pos} {e : Expr} {es : List Expr} {t : TA} {σ : L2.St}
theorem run_makeS {pins : List (Addr × Obj)} {H : Hp} {s : Shared} {Q : VK} {us : List Value} {vs : List V} (M : Mk X.K C f) (F : FnOk X.prog X.w X.K X.mg X.base CX k f fd ps sp) (hr : Room (k + 1) X.A) (hb : Binds X.K fd ps [])
    (hx : PassesAt CX X σ (E σ)) (I : Inv X pins σ H s) (r : Vals vs us)
    (h : ∀ x dx, H x = none → H dx = none → dx ≠ x → sp (.ref x :: vs) (upd (upd H dx (.own x)) x (.ins C dx [])) (fun v H2 => v = .non ∧ Q (.ref x) H2) (E σ)) :
    wpAny (model X.prog X.w) X.A (call (.ref C) us) (EP X pins σ Q) X.xe s := by
  have hq := h (s.heap.objs.size + 1) s.heap.objs.size (I.hok.fresh (Nat.le_succ _)) (I.hok.fresh (Nat.le_refl _)) (Nat.ne_of_lt (Nat.lt_succ_self _))
  have I2 := Inv.made (C := C) I
  have r2 : Vals (V.ref (s.heap.objs.size + 1) :: vs) (Value.ref (s.heap.objs.size + 1) :: us) := .cons rfl r
  have hl : (Value.ref (s.heap.objs.size + 1) :: us).length = ps.length := by
    have e := r2.length
    rw [F.len _ _ _ _ hq] at e
    exact e.symm
  have b := hb _ (Value.ref (s.heap.objs.size + 1) :: us) I2.kIn (by rw [List.append_nil]; exact hl)
  rw [List.append_nil] at b
  refine wpAny_call (make_map (f := f) I.kIn M.makes M.init (beq_iff_eq.mp M.fn) (codeAny_mono (F.run _ X.stack _ _ ⟨Value.ref (s.heap.objs.size + 1) :: us, []⟩ (Value.ref (s.heap.objs.size + 1) :: us) _ _ (E σ) (hr.make C us [])
    (I2.env0.make C us []) b r2 hq) fun r s' hq' => ?_))
  cases r with
  | error e => exact hx pins _ _ e s' I2 hq'
  | ok fl =>
    cases fl with
    | ret u =>
      obtain ⟨v, H', I3, rv, ev, q3⟩ := I2.after hq'
      subst ev
      exact ⟨rv, ⟨V.ref (s.heap.objs.size + 1), H', I3, rfl, q3⟩⟩
    | next => exact False.elim hq'
    | brk => exact False.elim hq'
    | cont => exact False.elim hq'
theorem pe_makeS (M : Mk X.K C f) (F : FnOk X.prog X.w X.K X.mg X.base CX k f fd ps sp) (hr : Room (k + 1) X.A) (hg : Gl X x) (hm : X.mg x = some (.ref C)) (hb : Binds X.K fd ps []) (hx : ∀ σ, PassesAt CX X σ (E σ))
    (ha : PA X (e :: es) t) (hdb : (x == ("__debug__" : Str)) = false := by decide) (he : starEach (e :: es) X.env = (false, eval e X.env) :: starEach es X.env := by rfl) (hpl : (backTo pos (starEach es X.env)).any (·.1) = false := by rfl) :
    PE X (.Call (.Name x p) (e :: es) [] pos) (tMakeS C sp E t) := by
  refine ⟨fun pins s σ H Q I h => ?_⟩
  refine wpAny_Call_Name_kw (ld_glob I hg hm ?_ hdb)
  refine PySem.W.callWith_K (h₀ := X.base) I.ok.mod.kin M.kp (thn (ha.run pos pins s σ H _ I h) fun us s1 ⟨vs, H1, I1, r, q⟩ => ⟨I1.kIn, ?_⟩) he hpl
  exact run_makeS M F hr hb (hx σ) I1 r q
end
structure KnownIX (P : Program) (w : World) (K : PySem.W.Frag) (mg : Str → Option Value) (base : Heap) (k : Nat) (x : Str) (C : Addr) (ps : List Str) (sp : DSpX) : Prop where
  ex : ∃ f fd, FnOk P w K mg base (L2.CX P w) k f fd ps (liftSpX K mg sp) ∧ mg x = some (.ref C) ∧ Mk K C f ∧ Binds K fd ps []
def dMakeX (C : Addr) (sp : DSpX) (wd : DWX) (ua : DA) : DE := fun ds M Q => ua ds M fun xs M1 => sp (.loc M1.length :: xs) (M1 ++ [.ins C []]) (fun d M2 => d = .non ∧ Q (.loc M1.length) M2) (wd ds)
theorem xmakeX {X : CB} {k : Nat} {C : Addr} {ps : List Str} {sp : DSpX} {x : Str} {p pos : Pos} {e : Expr} {es : List Expr} {ua : DA} {wd : DWX} (G : KnownIX X.prog X.w X.X.K X.mg X.base k x C ps sp) (hr : Room (k + 1) X.A) (hF : Flies X wd) (ha : XA X (e :: es) ua) (hg : Gl X x := by rfl) (hd : (x == ("__debug__" : Str)) = false := by decide)
    (he : starEach (e :: es) X.env = (false, eval e X.env) :: starEach es X.env := by rfl) (hpl : (backTo pos (starEach es X.env)).any (·.1) = false := by rfl) : XE X (.Call (.Name x p) (e :: es) [] pos) (dMakeX C sp wd ua) := by
  obtain ⟨f, fd, F, hm, hk, hb⟩ := G.ex
  obtain ⟨t, pa, l⟩ := ha.ex
  obtain ⟨W, tk, hW⟩ := hF.ex
  refine ⟨_, pe_makeS hk F hr hg hm hb (passAt tk) pa hd he hpl, fun g H σ ds M r s Q q R kk => l g H σ ds M r s _ q _ fun g1 H1 M1 xs vs x1 r1 rl q1 y dx hy hdx hne => ?_⟩
  obtain ⟨g2, x2, r2, rd, rl2⟩ := make_rel r1 rl hy hdx hne C
  refine ⟨g2, _, .loc M1.length :: xs, _, _, r2.start, .cons rd rl2, q1, fun g' H' M' d v z r' rd' h' => ?_, fun g' H' M' cls d nm at_ z r' rx' e => hW g' H' σ ds M' cls d nm at_ (r'.base rfl (r2.up.trans z)) ((s.mono (x1.trans x2).gr).mono z.gr) rx' e⟩
  obtain ⟨rfl, h'⟩ := h'
  cases rd'
  exact ⟨rfl, PostE.base r2 (x1.trans x2) kk g' H' M' _ _ z r' (rd.mono z.gr) h'⟩
end AX

/-! fields that are changed by += and the like -/
namespace AX
open PySem PySem.Spec PyProof.Rows L2
def dFldAug (C : Addr) (ns : List Str) (i : Nat) (f : Str) (uo ue : DE) (u : D2) : DS := fun DD ds M => uo ds M fun x M1 => match x with
  | .loc n => match M1[n]? with
    | some (.ins C' fs) => fitF C' C ns fs ∧ match fs[i]? with
      | some fd => ue ds M1 fun y M2 => u fd.2 y M2 fun z M3 => match M3[n]? with
        | some (.ins C2 fs2) => okF C2 C ns i fs2 ∧ DD.nx ds (M3.set n (.ins C2 (putD i f z fs2)))
        | _ => False
      | none => False
    | _ => False
  | _ => False
theorem s_fldaug {X : CB} {C : Addr} {ns : List Str} {e o : Expr} {ue uo : DE} {f : Str} {tpos pos : Pos} {op : Operator} {r : R2} {u : D2} (i : Nat) (T : ClsK X.X.K C ns) (ho : XE X o uo) (he : XE X e ue) (hop : OpR X (inplaceOp op) r) (hr : LR X.K r u) (hi : ns[i]? = some f := by rfl) :
    XS X (.AugAssign (.Attribute o f tpos) op e pos) (dFldAug C ns i f uo ue u) := by
  obtain ⟨t1, p1, l1⟩ := ho.ex
  obtain ⟨t2, p2, l2⟩ := he.ex
  refine ⟨_, ps_fldaug (rd := r) p1 p2 hop, fun g H σ ds M rm s DD q D k => l1 g H σ ds M rm s _ q _ fun g1 H1 M1 x v x1 r1 rx q1 => ?_⟩
  simp only at q1
  split at q1
  · rename_i n
    cases rx with
    | loc h1 =>
      rename_i p
      split at q1
      · rename_i C' fs e1
        obtain ⟨⟨rfl, hn⟩, q2⟩ := q1
        split at q2
        · rename_i fd hfd
          obtain ⟨_, dx, vs, hv, rp⟩ := r1.ob n p _ h1 e1
          have ef : fd.1 = f := by
            have z : (fs.map (·.1))[i]? = some fd.1 := by rw [List.getElem?_map, hfd]; rfl
            rw [hn, hi] at z
            exact (Option.some.inj z).symm
          obtain ⟨w, hw, rw'⟩ := rp.find (by rw [hn]; exact T.d) hfd
          rw [ef] at hw
          refine ⟨p, C', dx, vs, w, rfl, hv, T.c, T.n f (List.mem_of_getElem? hi), hw, l2 g1 H1 σ ds M1 r1 (s.mono x1) _ q2 _ fun g2 H2 M2 y yy x2 r2 ry q3 => hr g2 H2 M2 fd.2 y w yy r2 (rw'.mono x2) ry _ q3 _ fun g3 H3 M3 z zz x3 r3 rz q4 => ?_⟩
          have xx := x1.trans (x2.trans x3)
          have h3 : g3.as[n]? = some p := by
            have := (RelD.loc (K := X.X.K) h1).mono (x2.trans x3).gr
            cases this with
            | loc h => exact h
          simp only at q4
          split at q4
          · rename_i C2 fs2 e3
            obtain ⟨⟨rfl, hn2, hl2, h9⟩, q5⟩ := q4
            obtain ⟨f0, dx2, vs2, hv2, rp2⟩ := r3.ob n p _ h3 e3
            have rp3 := RelP.putO rz rp2 T.d hi hn2 hl2
            obtain ⟨x4, rr⟩ := r3.put (o := .ins C2 dx2 (putF f zz vs2)) (mo := .ins C2 (putD i f z fs2)) h3 f0 ⟨f0, dx2, _, upd_same, rp3⟩
            exact ⟨dx2, vs2, hv2, by rw [← rp2.len]; exact h9, k.nx g3 _ _ _ _ (xx.trans x4) rr (s.mono (xx.trans x4)) q5⟩
          · exact q4.elim
        · exact q2.elim
      · exact q1.elim
  · exact q1.elim
end AX

/-! parts of the program that many laws reach: numbers, octets -/
namespace PF
open PySem L2 AX PA
def u_is_number : DS :=
  (dRet (dAndV (dCB (a2 isiD) (dCons (dVar 0) (dCons (dC (.ty "int")) dNil))) (dAndV (dNotV (dCB (a2 isiD) (dCons (dVar 0) (dCons (dC (.ty "bool")) dNil)))) (dChain dLe dLe (dVar 1) (dVar 0) (dVar 2)))))
def u_is_octets (sp_is_number : DSp) : DS :=
  (dRet (dAndV (dCB (a2 isiD) (dCons (dVar 0) (dCons (dC (.ty "list")) dNil))) (dAndV (dOp dLe (dCB (a1 lenD) (dCons (dVar 0) dNil)) (dVar 1)) (dCB allL (dCons (dLc (dList (dVar 0)) (dgN 2) dYes (dCall sp_is_number (dCons (dVar 2) (dCons (dC (.int 0)) (dCons (dC (.int 255)) dNil)))) [2]) dNil)))))
local macro_rules | `(tactic| walk_at "ev") => `(tactic| (simp only [dSeq, dAsg, dNew, dC, dgN, dFor, dList, dVar, dIf, dAnd, dOr, dNot, dTest, dOp, dUn, dCB, a1, a2, lenD, dCons, dNil, dNeg, dEq, dNe, dIx, ixL, dAdd, dSub, dI2, dI2C, dFdiv, dMod, dLt, dLe, dGt, dGe, dDrop, dBM, tyD, appD, dIfS, dNext, dRet, dFrz, dPar, dgTup, dgCons, dgNil, dgSub, dWhile, dBrk, dCnt, dRetN, dTupI, dStrI, dLc, dYes, wipeD, dTru, truD, dNoP, dChain, dPow, dShl, dShr, dBand, dBor, dBxor, dMul, dIn, dNotIn, inG, dgN, dAug, dIAdd, onInts, onBls, dSset, max2D, min2D, sumL, allL, anyL, maxL, minL, sortedL, listN, dRng1, dRng2, dTup, dLst, dIs, dIsNot, D.isNon, intD, absD, listD, seqOf, dSl, dNoP, dPart, slD, dTimes, dAndV, dOrV, dNotV, dCall, dDisp, dPairs, dgSub, dSetI, dkey, keysOf, strD, addL, storeA0, storeA, storeB0, storeB, List.length_append, List.append_assoc, List.cons_append, List.nil_append, eqG, D.res, D.pure, D.depth, D.eqv, Int.reduceEq, Int.reduceLT, Int.reduceLE, Int.reduceNeg, Int.reduceAdd, Int.reduceSub, Int.reducePow,
  List.getElem?_cons_zero, List.getElem?_cons_succ, List.set_cons_zero, List.set_cons_succ, List.length_cons, List.length_nil, List.length_map, Nat.reduceAdd, Bool.not_eq_true, Bool.not_true, Bool.not_false, if_true, if_false, Bool.false_eq_true, decide_eq_true_eq, true_and, and_true, reduceCtorEq, ite_true, ite_false, Nat.zero_le, atI0, atI1, atI2, atI3, atI4, atI5, atI6]))
local macro_rules | `(tactic| walk_at "sd") => `(tactic| first | assumption | decide | omega | (exact size_ok (by omega)) | (exact size_le (by omega)) | (unfold TimesOk; omega) | (rw [sizeLine_eq]; decide))
local macro_rules | `(tactic| walk_at "go") => `(tactic| repeat ((with_reducible refine And.intro ?_ ?_); (· walk_at "sd")))
local macro_rules | `(tactic| walk_at "ft") => `(tactic| repeat (first | assumption | exact fit_int _ _ | exact fit_str _ _ | exact fit_bl _ _ | exact fit_non _ | exact fits_nil | refine fits_cons ?_ ?_ | exact fit_ints _ (by omega) _ | refine fit_lst (by simp only [List.length_cons, List.length_nil]; omega) ?_ | refine fit_tup (by simp only [List.length_cons, List.length_nil]; omega) ?_))
local macro_rules | `(tactic| walk_at "fo") => `(tactic| repeat ((with_reducible refine And.intro ?_ ?_); (· first | exact ⟨rfl, rfl⟩ | exact ⟨rfl, rfl, Nat.le_of_ble_eq_true rfl, Nat.le_of_ble_eq_true rfl⟩ | exact size_le (by decide))))
def isNum (x : D) (lo hi : Int) : Bool := match x with
  | .int i => decide (lo ≤ i) && decide (i ≤ hi)
  | _ => false
def sp_is_number : DSp := fun ds M Q => ∃ (x : D) (lo hi : Int), ds = [x, .int lo, .int hi] ∧ x.pure = true ∧ Q (.bl (isNum x lo hi)) M
theorem len_is_number (ds : List D) (M : MM) (Q : DK) : sp_is_number ds M Q → ds.length = 3 := fun ⟨_, _, _, e, _⟩ => e ▸ rfl
theorem b_is_number {x : D} {lo hi : Int} {M : MM} {Q : DK} (px : x.pure = true) (q : Q (.bl (isNum x lo hi)) M) : u_is_number (ends M Q) [some x, some (.int lo), some (.int hi)] M := by
  have fin : ∀ b, isNum x lo hi = b → Exit M Q (.bl b) M := fun b e => .all (e ▸ q)
  unfold u_is_number
  by_cases hi1 : x.isInt = true
  · refine andV_yes (val_isi rfl fun M Q => by rw [isi_int px, hi1]) ?_
    by_cases hb : x.isBl = true
    · refine andV_no (fun Q q => ?_) (fin _ ?_)
      · show dCB (a2 isiD) _ _ _ _
        refine val_isi rfl (fun M Q => by rw [isi_bl px, hb]) _ ?_
        exact q
      · cases x <;> first | rfl | (simp [D.isBl] at hb)
    · refine andV_yes (fun Q q => ?_) ?_
      · show dCB (a2 isiD) _ _ _ _
        refine val_isi rfl (fun M Q => by rw [isi_bl px, Bool.eq_false_iff.mpr hb]) _ ?_
        exact q
      · obtain ⟨i, rfl⟩ : ∃ i, x = .int i := by cases x <;> first | exact ⟨_, rfl⟩ | (simp [D.isInt, D.isBl] at hi1 hb)
        walk_at "ev"
        split
        · rename_i h
          refine fin _ ?_
          simp [isNum, h]
        · rename_i h
          refine fin _ ?_
          simp [isNum, h]
  · refine andV_no (val_isi rfl fun M Q => by rw [isi_int px, Bool.eq_false_iff.mpr hi1]) (fin _ ?_)
    cases x <;> first | rfl | (simp [D.isInt] at hi1)
theorem use_is_number (ds : List D) (M : MM) (Q : DK) : sp_is_number ds M Q → u_is_number (ends M Q) (st 3 ds) M := fun ⟨x, lo, hi, e, px, q⟩ => by subst e; exact b_is_number px q
/-- a list of octets, of at most so many -/
def isOct (x : D) (most : Int) : Bool := match x with
  | .lst xs => decide ((xs.length : Int) ≤ most) && xs.all fun y => isNum y 0 255
  | _ => false
def sp_is_octets : DSp := fun ds M Q => ∃ (x : D) (most : Int), ds = [x, .int most] ∧ x.pure = true ∧ most ≤ 1000000 ∧ Q (.bl (isOct x most)) M
theorem len_is_octets (ds : List D) (M : MM) (Q : DK) : sp_is_octets ds M Q → ds.length = 2 := fun ⟨_, _, e, _⟩ => e ▸ rfl
theorem b_is_octets {x : D} {most : Int} {M : MM} {Q : DK} (px : x.pure = true) (hm : most ≤ 1000000) (q : Q (.bl (isOct x most)) M) : u_is_octets sp_is_number (ends M Q) [some x, some (.int most), none] M := by
  have fin : ∀ b, isOct x most = b → Exit M Q (.bl b) M := fun b e => .all (e ▸ q)
  unfold u_is_octets
  by_cases hl : x.isLst = true
  · obtain ⟨xs, rfl⟩ : ∃ xs, x = .lst xs := by cases x <;> first | exact ⟨_, rfl⟩ | (simp [D.isLst] at hl)
    refine andV_yes (val_isi rfl fun M Q => by rw [isi_lst px, hl]) ?_
    by_cases hs : (xs.length : Int) ≤ most
    · refine andV_yes (fun Q q => ?_) ?_
      · walk_at "ev"
        rw [decide_eq_true hs]
        exact q
      · walk_at "ev"
        have pl : D.pureL xs = true := by simpa only [D.pure] using px
        have e : dLcL noChk (dgN 2) (dYes) (dCall sp_is_number (dCons (dVar 2) (dCons (dC (.int 0)) (dCons (dC (.int 255)) dNil)))) [some (.lst xs), some (.int most), none] (fun ys M2 => onBls (.lst ys) M2 fun bs => Exit M Q (.bl (bs.all fun b => b)) M2) (xs.map fun y => y) [] M := by
          refine lc_pure (fun y => y) (fun y => D.bl (isNum y 0 255)) xs trivial (fun y hy K k => ?_) (by rw [List.length_nil]; exact size_le (by omega)) ?_
          · exact ⟨y, 0, 255, rfl, pureL_mem pl y hy, k⟩
          · rw [List.nil_append, onBls_map]
            refine fin _ ?_
            simp only [isOct, hs, decide_true, Bool.true_and, List.all_map]
            rfl
        rw [List.map_id'] at e
        exact e
    · refine andV_no (fun Q q => ?_) (fin _ ?_)
      · walk_at "ev"
        rw [decide_eq_false hs]
        exact q
      · simp [isOct, hs]
  · refine andV_no (val_isi rfl fun M Q => by rw [isi_lst px, Bool.eq_false_iff.mpr hl]) (fin _ ?_)
    cases x <;> first | rfl | (simp [D.isLst] at hl)
theorem use_is_octets (ds : List D) (M : MM) (Q : DK) : sp_is_octets ds M Q → u_is_octets sp_is_number (ends M Q) (st 3 ds) M := fun ⟨x, m, e, px, hm, q⟩ => by subst e; exact b_is_octets px hm q
end PF

/-! The second of the two preludes that stand in the laws: a list to be drawn from; things that are the same. -/
namespace PB
open PySem L2 AX
def u__law_draws : DS :=
  (dRet (dNew (dCons (dCB (a1 listD) (dCons (dVar 0) dNil)) (dCons (dC (.int 0)) (dCons (dC (.int 0)) (dCons (dC (.int 1)) dNil))))))
def u__law_draw : DS :=
  (dSeq (dIfS (dAnd (dTest (dOp dEq (dOp dIx (dVar 0) (dC (.int 2))) (dC (.int 0)))) (dTest (dOp dLt (dOp dIx (dVar 0) (dC (.int 1))) (dCB (a1 lenD) (dCons (dOp dIx (dVar 0) (dC (.int 0))) dNil)))))
  (dSeq (dAsg (dOp dIx (dOp dIx (dVar 0) (dC (.int 0))) (dOp dIx (dVar 0) (dC (.int 1)))) (dgN 2))
  (dSeq (dAsg (dOp dAdd (dOp dIx (dVar 0) (dC (.int 1))) (dC (.int 1))) (dgSub (dVar 0) (dC (.int 1))))
  (dSeq (dIfS (dTest (dOp dGe (dVar 2) (dOp dPow (dC (.int 10)) (dC (.int 18)))))
  (dAsg (dVar 2) (dgSub (dVar 0) (dC (.int 2)))) dNext)
  (dAsg (dOp dMod (dCB (a1 intD) (dCons (dOp dAdd (dOp dAdd (dOp dTimes (dOp dIx (dVar 0) (dC (.int 3))) (dC (.int 48271))) (dVar 2)) (dC (.int 13))) dNil)) (dC (.int 2147483647))) (dgSub (dVar 0) (dC (.int 3))))))) dNext)
  (dSeq (dIfS (dTest (dOp dGt (dOp dIx (dVar 0) (dC (.int 2))) (dC (.int 0))))
  (dSeq (dAsg (dOp dMod (dCB (a1 intD) (dCons (dOp dIx (dVar 0) (dC (.int 2))) dNil)) (dVar 1)) (dgN 3))
  (dSeq (dAsg (dOp dFdiv (dOp dIx (dVar 0) (dC (.int 2))) (dVar 1)) (dgSub (dVar 0) (dC (.int 2))))
  (dRet (dVar 3)))) dNext)
  (dSeq (dAsg (dOp dMod (dCB (a1 intD) (dCons (dOp dAdd (dOp dTimes (dOp dIx (dVar 0) (dC (.int 3))) (dC (.int 69621))) (dC (.int 7))) dNil)) (dC (.int 2147483629))) (dgSub (dVar 0) (dC (.int 3))))
  (dRet (dOp dMod (dCB (a1 intD) (dCons (dOp dFdiv (dOp dIx (dVar 0) (dC (.int 3))) (dC (.int 11))) dNil)) (dVar 1))))))
def u__law_same (sp__law_same : DSp) : DS :=
  (dSeq (dIfS (dTest (dOp dIs (dVar 1) (dC .non)))
  (dRet (dOp dIs (dVar 0) (dC .non))) dNext)
  (dSeq (dIfS (dTest (dCB (a2 isiD) (dCons (dVar 1) (dCons (dC (.ty "bool")) dNil))))
  (dRet (dAndV (dCB (a2 isiD) (dCons (dVar 0) (dCons (dC (.ty "bool")) dNil))) (dOp dEq (dVar 0) (dVar 1)))) dNext)
  (dSeq (dIfS (dTest (dCB (a2 isiD) (dCons (dVar 1) (dCons (dC (.ty "int")) dNil))))
  (dRet (dAndV (dCB (a2 isiD) (dCons (dVar 0) (dCons (dC (.ty "int")) dNil))) (dAndV (dNotV (dCB (a2 isiD) (dCons (dVar 0) (dCons (dC (.ty "bool")) dNil)))) (dOp dEq (dVar 0) (dVar 1))))) dNext)
  (dSeq (dIfS (dTest (dCB (a2 isiD) (dCons (dVar 1) (dCons (dC (.ty "str")) dNil))))
  (dRet (dAndV (dCB (a2 isiD) (dCons (dVar 0) (dCons (dC (.ty "str")) dNil))) (dOp dEq (dVar 0) (dVar 1)))) dNext)
  (dSeq (dIfS (dTest (dCB (a2 isiD) (dCons (dVar 1) (dCons (dC (.ty "dict")) dNil))))
  (fun _ _ _ => False) dNext)
  (dSeq (dIfS (dTest (dCB (a2 isiD) (dCons (dVar 1) (dCons (dC (.ty "list")) dNil))))
  (dAsg (dCB (a2 isiD) (dCons (dVar 0) (dCons (dC (.ty "list")) dNil))) (dgN 3)) (dAsg (dCB (a2 isiD) (dCons (dVar 0) (dCons (dC (.ty "tuple")) dNil))) (dgN 3)))
  (dRet (dAndV (dVar 3) (dAndV (dOp dEq (dCB (a1 lenD) (dCons (dVar 0) dNil)) (dCB (a1 lenD) (dCons (dVar 1) dNil))) (dCB allL (dCons (dLc (dRng1 (dCons (dCB (a1 lenD) (dCons (dVar 1) dNil)) dNil)) (dgN 4) dYes (dCall sp__law_same (dCons (dOp dIx (dVar 0) (dVar 4)) (dCons (dOp dIx (dVar 1) (dVar 4)) dNil))) [4]) dNil)))))))))))
local macro_rules | `(tactic| walk_at "ev") => `(tactic| (simp only [dCallX, dRaise, dExF, wlook_hit, dSeq, dAsg, dNew, dC, dgN, dFor, dList, dVar, dIf, dAnd, dOr, dNot, dTest, dOp, dUn, dCB, a1, a2, lenD, dCons, dNil, dNeg, dEq, dNe, dIx, ixL, dAdd, dSub, dI2, dI2C, dFdiv, dMod, dLt, dLe, dGt, dGe, dDrop, dBM, tyD, appD, dIfS, dNext, dRet, dFrz, dPar, dgTup, dgCons, dgNil, dgSub, dWhile, dBrk, dCnt, dRetN, dTupI, dStrI, dLc, dYes, wipeD, dTru, truD, dNoP, dChain, dPow, dShl, dShr, dBand, dBor, dBxor, dMul, dIn, dNotIn, inG, dgN, dAug, dIAdd, onInts, onBls, dSset, max2D, min2D, sumL, allL, anyL, maxL, minL, sortedL, listN, dRng1, dRng2, dTup, dLst, dIs, dIsNot, D.isNon, intD, absD, listD, seqOf, dSl, dNoP, dPart, slD, dTimes, dAndV, dOrV, dNotV, dCall, dDisp, dPairs, dgSub, dSetI, dkey, keysOf, strD, addL, storeA0, storeA, storeB0, storeB, List.length_append, List.append_assoc, List.cons_append, List.nil_append, Int.reduceEq, Int.reduceLT, Int.reduceLE, Int.reduceNeg, Int.reduceAdd, Int.reduceSub, Int.reducePow,
  List.getElem?_cons_zero, List.getElem?_cons_succ, List.set_cons_zero, List.set_cons_succ, List.length_cons, List.length_nil, List.length_map, Nat.reduceAdd, Bool.not_eq_true, Bool.not_true, Bool.not_false, if_true, if_false, Bool.false_eq_true, decide_eq_true_eq, true_and, and_true, reduceCtorEq, ite_true, ite_false, Nat.zero_le, atI0, atI1, atI2, atI3, atI4, atI5, atI6]))
local macro_rules | `(tactic| walk_at "sd") => `(tactic| first | assumption | decide | omega | (exact size_ok (by omega)) | (exact size_le (by omega)) | (unfold TimesOk; omega) | (rw [sizeLine_eq]; decide))
local macro_rules | `(tactic| walk_at "go") => `(tactic| repeat ((with_reducible refine And.intro ?_ ?_); (· walk_at "sd")))
local macro_rules | `(tactic| walk_at "ft") => `(tactic| repeat (first | assumption | exact fit_int _ _ | exact fit_str _ _ | exact fit_bl _ _ | exact fit_non _ | exact fits_nil | refine fits_cons ?_ ?_ | exact fit_ints _ (by omega) _ | refine fit_lst (by simp only [List.length_cons, List.length_nil]; omega) ?_ | refine fit_tup (by simp only [List.length_cons, List.length_nil]; omega) ?_))
local macro_rules | `(tactic| walk_at "fo") => `(tactic| repeat ((with_reducible refine And.intro ?_ ?_); (· first | exact ⟨rfl, rfl⟩ | exact ⟨rfl, rfl, Nat.le_of_ble_eq_true rfl, Nat.le_of_ble_eq_true rfl⟩ | exact size_le (by decide))))
local macro_rules | `(tactic| walk_at "lv") => `(tactic| (simp only [dCallX, dRaise, dExF, wlook_hit, dSeq, dAsg, dNew, dC, dgN, dFor, dList, dVar, dIf, dAnd, dOr, dNot, dTest, dOp, dUn, dCB, a1, a2, dCons, dNil, dNeg, dEq, dNe, dAdd, dSub, dI2, dI2C, dFdiv, dMod, dLt, dLe, dGt, dGe, dDrop, dBM, tyD, appD, dIfS, dNext, dRet, dFrz, dPar, dgTup, dgCons, dgNil, dgSub, dWhile, dBrk, dCnt, dRetN, dTupI, dStrI, dLc, dYes, wipeD, dTru, truD, dNoP, dChain, dPow, dShl, dShr, dBand, dBor, dBxor, dMul, dIn, dNotIn, inG, dgN, dAug, dIAdd, onInts, onBls, dSset, max2D, min2D, sumL, allL, anyL, maxL, minL, sortedL, dRng1, dRng2, dTup, dLst, dIs, dIsNot, D.isNon, intD, absD, seqOf, dSl, dNoP, dPart, dTimes, dAndV, dOrV, dNotV, dCall, dDisp, dPairs, dgSub, dSetI, dkey, keysOf, strD, addL, storeA0, storeA, storeB0, storeB, List.length_append, List.append_assoc, List.cons_append, List.nil_append, Int.reduceEq, Int.reduceLT, Int.reduceLE, Int.reduceNeg, Int.reduceAdd, Int.reduceSub, Int.reducePow,
  List.getElem?_cons_zero, List.getElem?_cons_succ, List.set_cons_zero, List.set_cons_succ, List.length_cons, List.length_nil, List.length_map, Nat.reduceAdd, Bool.not_eq_true, Bool.not_true, Bool.not_false, if_true, if_false, Bool.false_eq_true, decide_eq_true_eq, true_and, and_true, reduceCtorEq, ite_true, ite_false, Nat.zero_le, atI0, atI1, atI2, atI3, atI4, atI5, atI6]))
abbrev ends (M : MM) (Q : DK) : DEnds := { nx := fun _ M' => Exit M Q .non M', rt := Exit M Q }
abbrev st (k : Nat) (ds : List D) : DEnv := ds.map some ++ List.replicate (k - ds.length) none
/-- the object that is drawn from -/
def IsDraws (mo : MO) : Prop := ∃ (ns : List Int) (a r s : Int), mo = .lst [.lst (ns.map D.int), .int a, .int r, .int s] ∧ 0 ≤ a
def spDraws : DSp := fun ds M Q => ∃ ns : List Int, ds = [.scr (ns.map D.int)] ∧ ∀ mo, IsDraws mo → Q (.loc M.length) (M ++ [mo])
theorem len__law_draws (ds : List D) (M : MM) (Q : DK) : spDraws ds M Q → ds.length = 1 := fun ⟨_, e, _⟩ => e ▸ rfl
theorem use__law_draws (ds : List D) (M : MM) (Q : DK) : spDraws ds M Q → u__law_draws (ends M Q) (st 1 ds) M := fun ⟨ns, e, q⟩ => by
  subst e
  show u__law_draws _ [some (.scr (ns.map D.int))] M
  unfold u__law_draws
  walk_at "ev"
  exact ⟨size_le (by decide), .all (q _ ⟨ns, 0, 0, 1, rfl, by decide⟩)⟩
def spDraw : DSp := fun ds M Q => ∃ (n : Nat) (b : Int) (mo : MO), ds = [.loc n, .int b] ∧ M[n]? = some mo ∧ IsDraws mo ∧ 0 < b ∧ b.natAbs.log2 < 9000 ∧ ∀ r mo', 0 ≤ r → r < b → IsDraws mo' → Q (.int r) (M.set n mo')
theorem len__law_draw (ds : List D) (M : MM) (Q : DK) : spDraw ds M Q → ds.length = 2 := fun ⟨_, _, _, e, _⟩ => e ▸ rfl
theorem use__law_draw (ds : List D) (M : MM) (Q : DK) : spDraw ds M Q → u__law_draw (ends M Q) (st 4 ds) M := fun ⟨n, b, mo, e, hm, hmo, hb, hl, q⟩ => by
  subst e
  show u__law_draw _ [some (.loc n), some (.int b), none, none] M
  have hn : n < M.length := (List.getElem?_eq_some_iff.mp hm).1
  have same : ∀ mo, M[n]? = some mo → M.set n mo = M := fun mo h => by
    obtain ⟨h1, h2⟩ := List.getElem?_eq_some_iff.mp h
    rw [← h2, List.set_getElem_self]
  unfold u__law_draw
  refine seq_go fun N hN => ?_
  have rest : ∀ mo' y2, IsDraws mo' → N [some (.loc n), some (.int b), y2, none] (M.set n mo') := fun mo' y2 ⟨ns, a, r, s, e, ha⟩ => by
    subst e
    have hm' : (M.set n (.lst [.lst (ns.map D.int), .int a, .int r, .int s]))[n]? = some (.lst [.lst (ns.map D.int), .int a, .int r, .int s]) := List.getElem?_set_self hn
    refine hN _ _ ?_
    clear hN N
    by_cases hr : 0 < r
    · refine if_yes (fun Q q => ?_) ?_
      · walk_at "ev"
        simp only [hm']
        walk_at "ev"
        rw [decide_eq_true hr]
        exact q
      · dsimp only
        walk_at "ev"
        simp only [hm']
        walk_at "ev"
        rw [show ixN 4 2 = some 2 from rfl]
        refine ⟨hb, ⟨hb, hl⟩, ?_⟩
        simp only [List.set_set]
        exact .all (q _ _ (Int.emod_nonneg _ (by omega)) (Int.emod_lt_of_pos _ hb) ⟨ns, a, r / b, s, rfl, ha⟩)
    · refine if_no (fun Q q => ?_) ?_
      · walk_at "ev"
        simp only [hm']
        walk_at "ev"
        rw [decide_eq_false hr]
        exact q
      · walk_at "ev"
        simp only [hm']
        walk_at "ev"
        rw [show ixN 4 3 = some 3 from rfl]
        refine ⟨by unfold TimesOk; omega, ?_⟩
        simp only [List.set_set]
        have hm2 : (M.set n (.lst ([.lst (ns.map D.int), .int a, .int r, .int s].set 3 (.int ((s * 69621 + 7) % 2147483629)))))[n]? = some (.lst [.lst (ns.map D.int), .int a, .int r, .int ((s * 69621 + 7) % 2147483629)]) := List.getElem?_set_self hn
        simp only [hm2]
        walk_at "ev"
        refine ⟨by decide, hb, ?_⟩
        exact .all (q _ _ (Int.emod_nonneg _ (by omega)) (Int.emod_lt_of_pos _ hb) ⟨ns, a, r, (s * 69621 + 7) % 2147483629, rfl, ha⟩)
  obtain ⟨ns, a, r, s, rfl, ha⟩ := id hmo
  have rest0 : ∀ y2, N [some (.loc n), some (.int b), y2, none] M := fun y2 => by
    have z := rest _ y2 hmo
    rw [same _ hm] at z
    exact z
  by_cases h1 : r = 0 ∧ a < (ns.length : Int)
  · obtain ⟨h1, h2⟩ := h1
    subst h1
    obtain ⟨j, rfl⟩ := Int.eq_ofNat_of_zero_le ha
    have hj : j < ns.length := by omega
    refine if1 (t_andR (t_val fun Q q => ?_) (t_val fun Q q => ?_)) ?_
    · walk_at "ev"
      simp only [hm]
      walk_at "ev"
      exact q
    · walk_at "ev"
      simp only [hm]
      walk_at "ev"
      rw [decide_eq_true h2]
      exact q
    · walk_at "ev"
      simp only [hm]
      walk_at "ev"
      have gset : ∀ mo, (M.set n mo)[n]? = some mo := fun mo => List.getElem?_set_self hn
      rw [atI_map D.int (List.getElem?_eq_getElem hj), show ixN 4 1 = some 1 from rfl]
      simp only
      refine ⟨by unfold CPow; decide, ?_⟩
      generalize ns[j] = c
      split
      · simp only [gset, List.set_set, List.set_cons_succ, List.set_cons_zero, List.length_cons, List.length_nil, Nat.reduceAdd]
        rw [show ixN 4 2 = some 2 from rfl]
        walk_at "ev"
        rw [show ixN 4 3 = some 3 from rfl]
        refine ⟨by unfold TimesOk; omega, ?_⟩
        exact rest _ _ ⟨ns, (j : Int) + 1, c, (s * 48271 + c + 13) % 2147483647, rfl, by omega⟩
      · simp only [gset, List.set_set, List.set_cons_succ, List.set_cons_zero, List.length_cons, List.length_nil, Nat.reduceAdd]
        walk_at "ev"
        rw [show ixN 4 3 = some 3 from rfl]
        refine ⟨by unfold TimesOk; omega, ?_⟩
        exact rest _ _ ⟨ns, (j : Int) + 1, 0, (s * 48271 + c + 13) % 2147483647, rfl, by omega⟩
  · refine if0 ?_ (rest0 _)
    by_cases hr : r = 0
    · subst hr
      refine t_andR (t_val fun Q q => ?_) (t_val fun Q q => ?_)
      · walk_at "ev"
        simp only [hm]
        walk_at "ev"
        exact q
      · walk_at "ev"
        simp only [hm]
        walk_at "ev"
        rw [decide_eq_false (fun z => h1 ⟨rfl, z⟩)]
        exact q
    · refine t_andL (t_val fun Q q => ?_)
      walk_at "ev"
      simp only [hm]
      walk_at "ev"
      rw [decide_eq_false hr]
      exact q
/-- what _law_same is worth, of data that is n deep at most -/
def spSame (n : Nat) : DSp := fun ds M Q => ∃ x y : D, ds = [x, y] ∧ x.pure = true ∧ y.pure = true ∧ y.small = true ∧ y.depth < n ∧ x.depth ≤ 60 ∧ Q (.bl (D.same x y)) M
theorem same_items {r2 : Option D} {n : Nat} {xs ys : List D} {M : MM} {Q : DK} (hx : D.pureL xs = true) (hy : D.pureL ys = true) (hs : D.smallL ys = true) (hl : xs.length = ys.length) (hz : ys.length ≤ 1000000) (hd : D.depthL ys < n) (hd2 : D.depthL xs ≤ 60) (x y : D) (ex : ∀ i Q, dIx x i M Q = ixL xs i M Q) (ey : ∀ i Q, dIx y i M Q = ixL ys i M Q)
    (q : Q (.bl (D.sameL xs ys)) M) : dLcL noChk (dgN 4) dYes (dCall (spSame n) (dCons (dOp dIx (dVar 0) (dVar 4)) (dCons (dOp dIx (dVar 1) (dVar 4)) dNil))) [some x, some y, none, r2, none] (fun zs M2 => onBls (.lst zs) M2 fun bs => Q (.bl (bs.all fun b => b)) M2) (rngD 0 ys.length) [] M := by
  refine lc_rng0 _ (fun i => .bl (D.same (xs.getD i .non) (ys.getD i .non))) trivial (fun i hi K k => ?_) (size_le hz) ?_
  · have hi1 : i < xs.length := by omega
    have m1 : xs.getD i .non ∈ xs := by rw [List.getD_eq_getElem?_getD, List.getElem?_eq_getElem hi1]; exact List.getElem_mem _
    have m2 : ys.getD i .non ∈ ys := by rw [List.getD_eq_getElem?_getD, List.getElem?_eq_getElem hi]; exact List.getElem_mem _
    show dIx x (.int (i : Int)) M _
    rw [ex]
    show ixL xs (.int (i : Int)) M _
    unfold ixL
    simp only [atI_getD hi1]
    show dIx y (.int (i : Int)) M _
    rw [ey]
    unfold ixL
    simp only [atI_getD hi]
    exact ⟨_, _, rfl, pureL_mem hx _ m1, pureL_mem hy _ m2, smallL_mem hs _ m2, Nat.lt_of_le_of_lt (depthL_mem m2) hd, Nat.le_trans (depthL_mem m1) hd2, k⟩
  · show onBls (.lst ((List.range ys.length).map fun i => D.bl (D.same (xs.getD i .non) (ys.getD i .non)))) M _
    rw [onBls_map, ← sameL_all xs ys hl]
    exact q
/-- the end of _law_same: lists, tuples -/
theorem same_tail {n : Nat} {xs ys : List D} {M : MM} {Q : DK} (x y : D) (hx : D.pureL xs = true) (hy : D.pureL ys = true) (hs : D.smallL ys = true) (hz : ys.length ≤ 1000000) (hd : D.depthL ys < n) (hd2 : D.depthL xs ≤ 60) (ex : ∀ i Q, dIx x i M Q = ixL xs i M Q) (ey : ∀ i Q, dIx y i M Q = ixL ys i M Q)
    (lx : ∀ Q, lenD x M Q = Q (.int (xs.length : Nat)) M) (ly : ∀ Q, lenD y M Q = Q (.int (ys.length : Nat)) M) (q : Q (.bl (D.sameL xs ys)) M) :
    dAndV (dVar 3) (dAndV (dOp dEq (dCB (a1 lenD) (dCons (dVar 0) dNil)) (dCB (a1 lenD) (dCons (dVar 1) dNil))) (dCB allL (dCons (dLc (dRng1 (dCons (dCB (a1 lenD) (dCons (dVar 1) dNil)) dNil)) (dgN 4) dYes (dCall (spSame n) (dCons (dOp dIx (dVar 0) (dVar 4)) (dCons (dOp dIx (dVar 1) (dVar 4)) dNil))) [4]) dNil)))
      [some x, some y, none, some (.bl true), none] M Q := by
  refine andV_yes (fun Q q => q) ?_
  have le : ∀ Q : DK, Q (.bl (decide ((xs.length : Int) = (ys.length : Int)))) M → dOp dEq (dCB (a1 lenD) (dCons (dVar 0) dNil)) (dCB (a1 lenD) (dCons (dVar 1) dNil)) [some x, some y, none, some (.bl true), none] M Q := fun Q q => by
    simp only [dOp, dCB, a1, dCons, dVar, dNil, List.getElem?_cons_zero, List.getElem?_cons_succ, lx, ly, dEq]
    exact q
  by_cases hl : xs.length = ys.length
  · refine andV_yes (fun Q q => le Q (by rw [hl, decide_eq_true rfl]; exact q)) ?_
    simp only [dLc, dRng1, dCB, a1, dCons, dVar, dNil, List.getElem?_cons_zero, List.getElem?_cons_succ, ly]
    refine ⟨by omega, by omega, ?_⟩
    exact same_items hx hy hs hl hz hd hd2 x y ex ey q
  · refine andV_no (fun Q q => le Q (by rw [decide_eq_false (by omega)]; exact q)) ?_
    have e : D.sameL xs ys = false := by
      cases z : D.sameL xs ys with
      | false => rfl
      | true => exact absurd (congrArg List.length ((D.sameL_eq xs ys hy).mp z)) hl
    rw [e] at q
    exact q
theorem b_same {n : Nat} {x y : D} {M : MM} {Q : DK} (px : x.pure = true) (py : y.pure = true) (sy : y.small = true) (hd : y.depth < n + 1) (hd2 : x.depth ≤ 60) (q : Q (.bl (D.same x y)) M) : u__law_same (spSame n) (ends M Q) [some x, some y, none, none, none] M := by
  have fin : ∀ b, D.same x y = b → Exit M Q (.bl b) M := fun b e => .all (e ▸ q)
  unfold u__law_same
  by_cases hn : y = .non
  · subst hn
    refine if_yes (tst_non rfl rfl) ?_
    walk_at "ev"
    exact fin _ (by cases x <;> simp [D.same, D.isNon])
  refine if_no (tst_non rfl (by cases y <;> first | rfl | exact absurd rfl hn)) ?_
  by_cases hb : y.isBl = true
  · obtain ⟨b, rfl⟩ : ∃ b, y = .bl b := by cases y <;> first | exact ⟨_, rfl⟩ | (simp [D.isBl] at hb)
    refine if_yes (tst_isi rfl fun M Q => by rw [isi_bl py]; rfl) ?_
    by_cases hx : x.isBl = true
    · refine andV_yes (val_isi rfl fun M Q => by rw [isi_bl px, hx]) (val_eq rfl rfl px py hd2 rfl _ (fin _ ?_))
      cases x <;> first | (simp [D.isBl] at hx; done) | simp [D.same, D.eqv]
    · refine andV_no (val_isi rfl fun M Q => by rw [isi_bl px, Bool.eq_false_iff.mpr hx]) (fin _ ?_)
      cases x <;> first | (simp [D.isBl] at hx; done) | simp [D.same]
  have hb' := Bool.eq_false_iff.mpr hb
  refine if_no (tst_isi rfl fun M Q => by rw [isi_bl py, hb']) ?_
  by_cases hi : y.isInt = true
  · obtain ⟨b, rfl⟩ : ∃ b, y = .int b := by cases y <;> first | exact ⟨_, rfl⟩ | (simp [D.isInt, D.isBl] at hi hb)
    refine if_yes (tst_isi rfl fun M Q => by rw [isi_int py]; rfl) ?_
    by_cases hx : x.isInt = true
    · refine andV_yes (val_isi rfl fun M Q => by rw [isi_int px, hx]) ?_
      by_cases hx2 : x.isBl = true
      · refine andV_no (fun Q q => ?_) (fin _ ?_)
        · show dCB (a2 isiD) _ _ _ _
          refine val_isi rfl (fun M Q => by rw [isi_bl px, hx2]) _ ?_
          exact q
        · cases x <;> first | (simp [D.isBl] at hx2; done) | simp [D.same]
      · refine andV_yes (fun Q q => ?_) (val_eq rfl rfl px py hd2 rfl _ (fin _ ?_))
        · show dCB (a2 isiD) _ _ _ _
          refine val_isi rfl (fun M Q => by rw [isi_bl px, Bool.eq_false_iff.mpr hx2]) _ ?_
          exact q
        · cases x <;> first | (simp [D.isInt, D.isBl] at hx hx2; done) | simp [D.same, D.eqv, Bool.beq_eq_decide_eq]
    · refine andV_no (val_isi rfl fun M Q => by rw [isi_int px, Bool.eq_false_iff.mpr hx]) (fin _ ?_)
      cases x <;> first | (simp [D.isInt] at hx; done) | simp [D.same]
  have hi' := Bool.eq_false_iff.mpr hi
  refine if_no (tst_isi rfl fun M Q => by rw [isi_int py, hi']) ?_
  by_cases hs : y.isStr = true
  · obtain ⟨b, rfl⟩ : ∃ b, y = .str b := by cases y <;> first | exact ⟨_, rfl⟩ | (simp [D.isStr] at hs)
    refine if_yes (tst_isi rfl fun M Q => by rw [isi_str py]; rfl) ?_
    by_cases hx : x.isStr = true
    · refine andV_yes (val_isi rfl fun M Q => by rw [isi_str px, hx]) (val_eq rfl rfl px py hd2 rfl _ (fin _ ?_))
      cases x <;> first | (simp [D.isStr] at hx; done) | simp [D.same, D.eqv]
    · refine andV_no (val_isi rfl fun M Q => by rw [isi_str px, Bool.eq_false_iff.mpr hx]) (fin _ ?_)
      cases x <;> first | (simp [D.isStr] at hx; done) | simp [D.same]
  have hs' := Bool.eq_false_iff.mpr hs
  refine if_no (tst_isi rfl fun M Q => by rw [isi_str py, hs']) (if_no (tst_isi rfl fun M Q => isi_dic py) ?_)
  refine seq_go fun N hN => ?_
  by_cases hl : y.isLst = true
  · obtain ⟨ys, rfl⟩ : ∃ b, y = .lst b := by cases y <;> first | exact ⟨_, rfl⟩ | (simp [D.isLst] at hl)
    refine if1 (tst_isi (b := true) rfl fun M Q => by rw [isi_lst py]; rfl) ?_
    refine asg (val_isi (b := x.isLst) rfl fun M Q => isi_lst px) ?_
    refine hN _ _ ?_
    clear hN N
    simp only [List.set_cons_succ, List.set_cons_zero]
    by_cases hx : x.isLst = true
    · obtain ⟨xs, rfl⟩ : ∃ b, x = .lst b := by cases x <;> first | exact ⟨_, rfl⟩ | (simp [D.isLst] at hx)
      simp only [D.pure, D.small, D.depth, Bool.and_eq_true, decide_eq_true_eq] at px py sy hd hd2
      show dAndV _ _ [some (.lst xs), some (.lst ys), none, some (.bl true), none] M _
      exact same_tail (.lst xs) (.lst ys) px py sy.2 sy.1 (by omega) (by omega) (fun _ _ => rfl) (fun _ _ => rfl) (fun _ => rfl) (fun _ => rfl) (fin _ (by simp [D.same]))
    · rw [Bool.eq_false_iff.mpr hx]
      show dAndV _ _ [some x, some (.lst ys), none, some (.bl false), none] M _
      refine andV_no (fun Q q => q) (fin _ ?_)
      cases x <;> first | (simp [D.isLst] at hx; done) | simp [D.same]
  · refine if0 (tst_isi (b := false) rfl fun M Q => by rw [isi_lst py, Bool.eq_false_iff.mpr hl]) ?_
    refine asg (val_isi (b := x.isTup) rfl fun M Q => isi_tup px) ?_
    refine hN _ _ ?_
    clear hN N
    simp only [List.set_cons_succ, List.set_cons_zero]
    obtain ⟨ys, rfl⟩ : ∃ b, y = .tup b := by cases y <;> first | exact ⟨_, rfl⟩ | (simp [D.isLst, D.isStr, D.isInt, D.isBl, D.pure] at hl hs hi hb hn py)
    by_cases hx : x.isTup = true
    · obtain ⟨xs, rfl⟩ : ∃ b, x = .tup b := by cases x <;> first | exact ⟨_, rfl⟩ | (simp [D.isTup] at hx)
      simp only [D.pure, D.small, D.depth, Bool.and_eq_true, decide_eq_true_eq] at px py sy hd hd2
      show dAndV _ _ [some (.tup xs), some (.tup ys), none, some (.bl true), none] M _
      exact same_tail (.tup xs) (.tup ys) px py sy.2 sy.1 (by omega) (by omega) (fun _ _ => rfl) (fun _ _ => rfl) (fun _ => rfl) (fun _ => rfl) (fin _ (by simp [D.same]))
    · rw [Bool.eq_false_iff.mpr hx]
      show dAndV _ _ [some x, some (.tup ys), none, some (.bl false), none] M _
      refine andV_no (fun Q q => q) (fin _ ?_)
      cases x <;> first | (simp [D.isTup] at hx; done) | simp [D.same]
theorem len__law_same {n : Nat} (ds : List D) (M : MM) (Q : DK) : spSame n ds M Q → ds.length = 2 := fun ⟨_, _, e, _⟩ => e ▸ rfl
theorem none__law_same (ds : List D) (M : MM) (Q : DK) : ¬ spSame 0 ds M Q := fun ⟨_, _, _, _, _, _, h, _⟩ => by omega
theorem use__law_same {n : Nat} (ds : List D) (M : MM) (Q : DK) : spSame (n + 1) ds M Q → u__law_same (spSame n) (ends M Q) (st 5 ds) M := fun ⟨x, y, e, h1, h2, h3, h4, h5, q⟩ => by subst e; exact b_same h1 h2 h3 h4 h5 q
/-- the same thing twice -/
theorem same_on {n : Nat} {x : D} {M : MM} {Q : DK} (p : x.pure = true) (s : x.small = true) (h : x.depth < n) (h2 : x.depth ≤ 60) (q : Q (.bl true) M) : spSame n [x, x] M Q := ⟨x, x, rfl, p, p, s, h, h2, by rw [D.same_rfl p]; exact q⟩
end PB

/-! lists that are drawn -/
namespace AX
open PySem L2
theorem depthL_of {n : Nat} : ∀ {xs : List D}, (∀ x ∈ xs, x.depth ≤ n) → D.depthL xs ≤ n
  | [], _ => by simp [D.depthL]
  | y :: ys, e => by
    have h1 := e y List.mem_cons_self
    have h2 := depthL_of (xs := ys) fun x hx => e x (List.mem_cons_of_mem _ hx)
    simp only [D.depthL]
    omega
theorem ixN_at {n j : Nat} (h : j < n) : ixN n (j : Int) = some j := by
  unfold ixN
  simp
  omega
section
variable {e e1 e2 : DE} {ds : DEnv} {M : MM} {x d : D} {xs : List D}
theorem v_lenS (h : Val e ds M x) (hs : seqOf M x = some xs) : Val (dCB (a1 lenD) (dCons e dNil)) ds M (.int (xs.length : Nat)) := fun Q q => h _ (len_seq hs Q q)
theorem v_ixS {i : Int} (h : Val e1 ds M x) (h2 : Val e2 ds M (.int i)) (hs : seqOf M x = some xs) (hi : atI xs i = some d) : Val (dOp dIx e1 e2) ds M d := v_op h h2 fun K k => ix_seq hs hi K k
theorem v_listS (h : Val e ds M x) (hs : seqOf M x = some xs) : Val (dCB (a1 listD) (dCons e dNil)) ds M (.lst xs) := fun Q q => h _ (list_seq hs Q q)
end
/-- data that may be compared: plain, not too great, of so many steps -/
structure D.fit (x : D) (n : Nat) : Prop where
  p : x.pure = true
  s : x.small = true
  d : x.depth ≤ n
theorem D.fit.mono {x : D} {n m : Nat} (h : x.fit n) (l : n ≤ m) : x.fit m := ⟨h.p, h.s, Nat.le_trans h.d l⟩
theorem fit_int (i : Int) (n : Nat) : (D.int i).fit n := ⟨by simp [D.pure], by simp [D.small], by simp [D.depth]⟩
theorem fit_str (i : Str) (n : Nat) : (D.str i).fit n := ⟨by simp [D.pure], by simp [D.small], by simp [D.depth]⟩
theorem fit_bl (i : Bool) (n : Nat) : (D.bl i).fit n := ⟨by simp [D.pure], by simp [D.small], by simp [D.depth]⟩
theorem fit_non (n : Nat) : D.non.fit n := ⟨by simp [D.pure], by simp [D.small], by simp [D.depth]⟩
theorem fit_lst {xs : List D} {n : Nat} (hl : xs.length ≤ 1000000) (h : ∀ x ∈ xs, x.fit n) : (D.lst xs).fit (n + 1) :=
  ⟨by simp only [D.pure]; exact pureL_of fun x hx => (h x hx).p, by simp only [D.small, Bool.and_eq_true, decide_eq_true_eq]; exact ⟨hl, smallL_of fun x hx => (h x hx).s⟩, by
    have := depthL_of fun x hx => (h x hx).d
    simp only [D.depth]
    omega⟩
theorem fit_tup {xs : List D} {n : Nat} (hl : xs.length ≤ 1000000) (h : ∀ x ∈ xs, x.fit n) : (D.tup xs).fit (n + 1) :=
  ⟨by simp only [D.pure]; exact pureL_of fun x hx => (h x hx).p, by simp only [D.small, Bool.and_eq_true, decide_eq_true_eq]; exact ⟨hl, smallL_of fun x hx => (h x hx).s⟩, by
    have := depthL_of fun x hx => (h x hx).d
    simp only [D.depth]
    omega⟩
theorem fit_ints (ns : List Int) (hl : ns.length ≤ 1000000) (n : Nat) : (D.lst (ns.map D.int)).fit (n + 1) :=
  fit_lst (by rw [List.length_map]; exact hl) fun x hx => by
    obtain ⟨i, _, rfl⟩ := List.mem_map.mp hx
    exact fit_int i n
theorem fits_nil {n : Nat} : ∀ x ∈ ([] : List D), x.fit n := fun x h => by cases h
theorem fits_cons {n : Nat} {x : D} {xs : List D} (h : x.fit n) (h2 : ∀ x ∈ xs, x.fit n) : ∀ y ∈ x :: xs, y.fit n := fun y hy => by
  rcases List.mem_cons.mp hy with e | e
  · exact e ▸ h
  · exact h2 y e
end AX
namespace PB
open PySem L2 AX
theorem same_fit {n m : Nat} {x : D} {M : MM} {Q : DK} (h : x.fit m) (hm : m < n) (hm2 : m ≤ 60) (q : Q (.bl true) M) : spSame n [x, x] M Q :=
  same_on h.p h.s (Nat.lt_of_le_of_lt h.d hm) (Nat.le_trans h.d hm2) q
theorem lc_draws {gt : D → DEnv → MM → (DEnv → MM → Prop) → Prop} {ue : DE} {dw : DEnv} {Q : List D → MM → Prop} {n j : Nat} {P : Int → Prop} {M : MM} {mo : MO} (hm : M[j]? = some mo) (hmo : IsDraws mo) (hn : n ≤ 100000)
    (step : ∀ i, i < n → ∀ mo', IsDraws mo' → ∀ K : DK, (∀ c mo'', P c → IsDraws mo'' → K (.int c) (M.set j mo'')) → gt (.int (0 + (i : Int))) dw (M.set j mo') fun ds2 M2 => ue ds2 M2 K)
    (q : ∀ (cs : List Int) mo', cs.length = n → (∀ c ∈ cs, P c) → IsDraws mo' → Q (cs.map D.int) (M.set j mo')) : dLcL noChk gt dYes ue dw Q (rngD 0 n) [] M := by
  have hj : j < M.length := (List.getElem?_eq_some_iff.mp hm).1
  unfold rngD
  refine lc_inv (fun i : Nat => D.int (0 + (i : Int))) (List.range n) (fun pre acc M' => ∃ (cs : List Int) (mo' : MO), acc = cs.map D.int ∧ M' = M.set j mo' ∧ IsDraws mo' ∧ (∀ c ∈ cs, P c) ∧ cs.length = pre.length)
    ⟨[], mo, rfl, by
      obtain ⟨h1, h2⟩ := List.getElem?_eq_some_iff.mp hm
      rw [← h2, List.set_getElem_self], hmo, fun c h => (by cases h), rfl⟩ ?_ ?_
  · rintro pre a post acc M' e ⟨cs, mo', rfl, rfl, hmo', hc, hl⟩ K hK
    have hlen : (List.range n).length = (pre ++ a :: post).length := by rw [e]
    rw [List.length_range, List.length_append, List.length_cons] at hlen
    have ha : a = pre.length := by
      have h1 : (List.range n)[pre.length]? = some a := by rw [e, List.getElem?_append_right (Nat.le_refl _), Nat.sub_self]; rfl
      have z := List.getElem?_eq_some_iff.mp h1
      rw [← z.2, List.getElem_range]
    refine ⟨trivial, ?_⟩
    have st := step a (by omega) mo' hmo' (fun y M4 => (cs.map D.int).length < sizeLine ∧ K (cs.map D.int ++ [y]) M4) fun c mo'' hp h => ⟨size_ok (by rw [List.length_map]; omega), hK _ _ ⟨cs ++ [c], mo'', by rw [List.map_append]; rfl, rfl, h, fun d hd => by
      rcases List.mem_append.mp hd with z | z
      · exact hc d z
      · rw [List.mem_singleton.mp z]; exact hp, by rw [List.length_append, List.length_append, hl]; rfl⟩⟩
    refine cast ?_ st
    congr 1
  · rintro acc M' ⟨cs, mo', rfl, rfl, hmo', hc, hl⟩
    exact ⟨trivial, q cs mo' (by rw [hl, List.length_range]) hc hmo'⟩
theorem keepD {M : MM} {Q : DK} {d : D} {j : Nat} {mo : MO} (L : MM) (hd : d.pure = true) (hmo : IsDraws mo) (hj : j < M.length) (q : Q d (M.set j mo)) : Exit M Q d (M.set j mo ++ L) := by
  refine .inr ⟨M.length, Nat.le_refl _, D.pure_under hd, fun n mo' hn e => ?_, ?_⟩
  · rw [List.getElem?_append_left (by rw [List.length_set]; exact hn)] at e
    by_cases h : n = j
    · subst h
      rw [List.getElem?_set_self hj] at e
      cases e
      obtain ⟨ns, a, r, s, rfl, _⟩ := hmo
      left
      have hp : D.underL M.length (ns.map D.int) = true := D.pureL_under (ints_pure ns)
      simp only [MO.under, D.underL, hp, D.under, Bool.and_true]
    · rw [List.getElem?_set_ne (Ne.symm h)] at e
      exact .inr e
  · rw [List.take_left' (by rw [List.length_set])]
    exact q
end PB

/-! comprehensions and loops by what they are worth -/
namespace AX
open PySem L2
section
variable {α : Type} {chk : MM → Prop} {gt : DG} {ut : DT} {ue : DE} {dw ds : DEnv} {M : MM} {Q : List D → MM → Prop}
theorem lc_filt (f : α → D) (p : α → Bool) (g : α → D) : ∀ (ns : List α) {acc : List D}, chk M →
    (∀ a ∈ ns, ∀ (K1 : DK) (K0 : MM → Prop), (p a = true → K1 (g a) M) → (p a = false → K0 M) → gt (f a) dw M fun ds2 M2 => ut ds2 M2 fun b M3 => if b = true then ue ds2 M3 K1 else K0 M3) →
    acc.length + ns.length ≤ sizeLine → Q (acc ++ (ns.filter p).map g) M → dLcL chk gt ut ue dw Q (ns.map f) acc M
  | [], acc, hc, h, hl, q => by
    refine ⟨hc, ?_⟩
    simpa using q
  | a :: ns, acc, hc, h, hl, q => by
    refine ⟨hc, ?_⟩
    rw [List.length_cons] at hl
    refine h a (List.mem_cons_self ..) (fun y M4 => acc.length < sizeLine ∧ dLcL chk gt ut ue dw Q (ns.map f) (acc ++ [y]) M4) (fun M3 => dLcL chk gt ut ue dw Q (ns.map f) acc M3) (fun c => ⟨by omega, lc_filt f p g ns hc (fun b hb => h b (List.mem_cons_of_mem _ hb)) (by rw [List.length_append]; simp only [List.length_cons, List.length_nil]; omega) ?_⟩) fun c => lc_filt f p g ns hc (fun b hb => h b (List.mem_cons_of_mem _ hb)) (by omega) ?_
    · rw [List.filter_cons, if_pos c] at q
      simpa using q
    · rw [List.filter_cons, if_neg (by rw [c]; decide)] at q
      exact q
theorem lc_filtN (i : Nat) (f : α → D) (p : α → Bool) (g : α → D) (ns : List α) (hc : chk M) (ht : ∀ a ∈ ns, Tst ut (dw.set i (some (f a))) M (p a)) (he : ∀ a ∈ ns, p a = true → Val ue (dw.set i (some (f a))) M (g a))
    (hl : ns.length ≤ sizeLine) (q : Q ((ns.filter p).map g) M) : dLcL chk (dgN i) ut ue dw Q (ns.map f) [] M :=
  lc_filt f p g ns hc (fun a ha K1 K0 k1 k0 => ht a ha _ (by
    cases c : p a with
    | true => exact he a ha c _ (k1 c)
    | false => exact k0 c)) (by simpa using hl) (by simpa using q)
theorem lc_mapN (i : Nat) (f : α → D) (g : α → D) (ns : List α) (hc : chk M) (he : ∀ a ∈ ns, Val ue (dw.set i (some (f a))) M (g a))
    (hl : ns.length ≤ sizeLine) (q : Q (ns.map g) M) : dLcL chk (dgN i) dYes ue dw Q (ns.map f) [] M :=
  lc_filtN i f (fun _ => true) g ns hc (fun a _ Q q => q) (fun a ha _ => he a ha) hl (by
    rw [List.filter_eq_self.mpr (fun _ _ => rfl)]
    exact q)
end
variable {α : Type} {ut : DT} {ue e e1 : DE} {ds : DEnv} {M : MM} {x : D} {vs : List Nat}
theorem v_lcF (i : Nat) (f : α → D) (p : α → Bool) (g : α → D) (ns : List α) (h : Val e ds M x) (hx : seqOf M x = some (ns.map f)) (hl : ns.length ≤ sizeLine)
    (ht : ∀ a ∈ ns, Tst ut ((wipeD ds vs).set i (some (f a))) M (p a)) (he : ∀ a ∈ ns, p a = true → Val ue ((wipeD ds vs).set i (some (f a))) M (g a)) :
    Val (dLc (dList e) (dgN i) ut ue vs) ds M (.lst ((ns.filter p).map g)) := fun Q q => h _ (by
  cases x with
  | lst xs =>
    cases hx
    exact lc_filtN i f p g ns trivial ht he hl q
  | loc n =>
    have hm := seq_loc hx
    simp only [hm]
    exact lc_filtN i f p g ns hm ht he hl q
  | _ => simp [seqOf] at hx)
theorem v_lcM (i : Nat) (f : α → D) (g : α → D) (ns : List α) (h : Val e ds M x) (hx : seqOf M x = some (ns.map f)) (hl : ns.length ≤ sizeLine)
    (he : ∀ a ∈ ns, Val ue ((wipeD ds vs).set i (some (f a))) M (g a)) : Val (dLc (dList e) (dgN i) dYes ue vs) ds M (.lst (ns.map g)) := fun Q q => h _ (by
  cases x with
  | lst xs =>
    cases hx
    exact lc_mapN i f g ns trivial he hl q
  | loc n =>
    have hm := seq_loc hx
    simp only [hm]
    exact lc_mapN i f g ns hm he hl q
  | _ => simp [seqOf] at hx)
theorem v_lcMT (i : Nat) (f : α → D) (g : α → D) (ns : List α) (h : Val e ds M (.tup (ns.map f))) (hl : ns.length ≤ sizeLine)
    (he : ∀ a ∈ ns, Val ue ((wipeD ds vs).set i (some (f a))) M (g a)) : Val (dLc (dTupI e) (dgN i) dYes ue vs) ds M (.lst (ns.map g)) := fun Q q => h _ (lc_mapN i f g ns trivial he hl q)
theorem rng_map (n : Nat) : rngD 0 n = (List.range n).map fun (k : Nat) => D.int (k : Int) := List.map_congr_left fun (k : Nat) _ => by rw [Int.zero_add]
theorem v_lcR (i : Nat) (n : Nat) (g : Nat → D) (h : Val e ds M (.int (n : Int))) (hl : n ≤ 1000000)
    (he : ∀ k, k < n → Val ue ((wipeD ds vs).set i (some (.int (k : Int)))) M (g k)) : Val (dLc (dRng1 (dCons e dNil)) (dgN i) dYes ue vs) ds M (.lst ((List.range n).map g)) := fun Q q => h _ ⟨by omega, by omega, by
  rw [Int.toNat_natCast, rng_map]
  exact lc_mapN (Q := fun ys M2 => Q (.lst ys) M2) i _ g _ trivial (fun k hk => he k (List.mem_range.mp hk)) (by rw [List.length_range]; exact size_le hl) q⟩
theorem v_lcRF (i : Nat) (n : Nat) (p : Nat → Bool) (g : Nat → D) (h : Val e ds M (.int (n : Int))) (hl : n ≤ 1000000)
    (ht : ∀ k, k < n → Tst ut ((wipeD ds vs).set i (some (.int (k : Int)))) M (p k))
    (he : ∀ k, k < n → p k = true → Val ue ((wipeD ds vs).set i (some (.int (k : Int)))) M (g k)) : Val (dLc (dRng1 (dCons e dNil)) (dgN i) ut ue vs) ds M (.lst (((List.range n).filter p).map g)) := fun Q q => h _ ⟨by omega, by omega, by
  rw [Int.toNat_natCast, rng_map]
  exact lc_filtN (Q := fun ys M2 => Q (.lst ys) M2) i _ p g _ trivial (fun k hk => ht k (List.mem_range.mp hk)) (fun k hk => he k (List.mem_range.mp hk)) (by rw [List.length_range]; exact size_le hl) q⟩
/-- while, by a measure -/
theorem while_inv {c : DT} {b : DS} {DD : DEnds} (W : Nat → DEnv → MM → Prop) {m : Nat} (h0 : W m ds M)
    (hs : ∀ m ds M, W m ds M → ∀ KB : DEnv → MM → Prop, (∀ m' ds' M', m' < m → W m' ds' M' → KB ds' M') → c ds M fun k M1 => if k = true then b { DD with nx := KB, ct := KB, bk := DD.nx } ds M1 else DD.nx ds M1) : dWhile c b DD ds M :=
  ⟨W, ⟨m, h0⟩, fun m ds M h => hs m ds M h (fun ds' M' => ∃ m', m' < m ∧ W m' ds' M') fun m' ds' M' l w => ⟨m', l, w⟩⟩
theorem v_all {bs : List Bool} (h : Val e ds M (.lst (bs.map D.bl))) : Val (dCB allL (dCons e dNil)) ds M (.bl (bs.all fun b => b)) := fun Q q => h _ (by
  show onBls (.lst (bs.map D.bl)) M fun bs => Q (.bl (bs.all fun b => b)) M
  unfold onBls
  simp only [seqOf, blsOf_map]
  exact q)
theorem v_any {bs : List Bool} (h : Val e ds M (.lst (bs.map D.bl))) : Val (dCB anyL (dCons e dNil)) ds M (.bl (bs.any fun b => b)) := fun Q q => h _ (by
  show onBls (.lst (bs.map D.bl)) M fun bs => Q (.bl (bs.any fun b => b)) M
  unfold onBls
  simp only [seqOf, blsOf_map]
  exact q)
theorem v_if {t : DT} {e2 : DE} {b : Bool} {d1 d2 : D} (h : Tst t ds M b) (h1 : b = true → Val e ds M d1) (h2 : b = false → Val e2 ds M d2) : Val (dIf t e e2) ds M (if b = true then d1 else d2) := by
  cases b with
  | true => exact fun Q q => v_if1 h (h1 rfl _ q)
  | false => exact fun Q q => v_if0 h (h2 rfl _ q)
/-- == of data that may be compared -/
theorem v_eqD {e2 : DE} {y : D} {n : Nat} (h : Val e ds M x) (h2 : Val e2 ds M y) (hx : x.fit n) (hy : y.fit n) (hn : n ≤ 60) : Val (dOp dEq e e2) ds M (.bl (D.eqv x y)) := v_op h h2 fun Q q => by
  have g : eqG x y M fun b => Q (.bl b) M := ⟨by rw [res_pure hx.p]; exact hx.p, by rw [res_pure hy.p]; exact hy.p, by rw [res_pure hx.p]; exact Nat.le_trans hx.d hn, by rw [res_pure hx.p, res_pure hy.p]; exact q⟩
  cases x with
  | int i =>
    cases y with
    | int j =>
      simp only [D.eqv] at q
      exact q
    | _ => exact g
  | _ => exact g
theorem v_neD {e2 : DE} {y : D} {n : Nat} (h : Val e ds M x) (h2 : Val e2 ds M y) (hx : x.fit n) (hy : y.fit n) (hn : n ≤ 60) : Val (dOp dNe e e2) ds M (.bl (!D.eqv x y)) := v_op h h2 fun Q q => by
  have g : eqG x y M fun b => Q (.bl (!b)) M := ⟨by rw [res_pure hx.p]; exact hx.p, by rw [res_pure hy.p]; exact hy.p, by rw [res_pure hx.p]; exact Nat.le_trans hx.d hn, by rw [res_pure hx.p, res_pure hy.p]; exact q⟩
  cases x with
  | int i =>
    cases y with
    | int j =>
      simp only [D.eqv] at q
      exact q
    | _ => exact g
  | _ => exact g
/-- x in a list -/
theorem v_inD {e2 : DE} {y : D} {n : Nat} {ys : List D} (h : Val e ds M x) (h2 : Val e2 ds M y) (hy : seqOf M y = some ys) (hx : x.fit n) (hys : ∀ y ∈ ys, y.fit n) (hn : n ≤ 60) : Val (dOp dIn e e2) ds M (.bl (D.mem x ys)) := v_op h h2 fun Q q => by
  have e : y.res M = .lst ys := by
    cases y with
    | lst zs => cases hy; rfl
    | loc n => simp only [D.res, seq_loc hy]
    | _ => simp [seqOf] at hy
  show inG false x y M Q
  unfold inG
  rw [e]
  refine ⟨by rw [res_pure hx.p]; exact hx.p, pureL_of fun y hy => (hys y hy).p, by rw [res_pure hx.p]; exact Nat.le_trans hx.d hn, ?_⟩
  rw [res_pure hx.p]
  exact q
theorem v_notInD {e2 : DE} {y : D} {n : Nat} {ys : List D} (h : Val e ds M x) (h2 : Val e2 ds M y) (hy : seqOf M y = some ys) (hx : x.fit n) (hys : ∀ y ∈ ys, y.fit n) (hn : n ≤ 60) : Val (dOp dNotIn e e2) ds M (.bl (!D.mem x ys)) := v_op h h2 fun Q q => by
  have e : y.res M = .lst ys := by
    cases y with
    | lst zs => cases hy; rfl
    | loc n => simp only [D.res, seq_loc hy]
    | _ => simp [seqOf] at hy
  show inG true x y M Q
  unfold inG
  rw [e]
  refine ⟨by rw [res_pure hx.p]; exact hx.p, pureL_of fun y hy => (hys y hy).p, by rw [res_pure hx.p]; exact Nat.le_trans hx.d hn, ?_⟩
  rw [res_pure hx.p]
  exact q
/-- tuples: a place, a slice -/
theorem v_ixTup {xs : List D} {i : Int} {e2 : DE} {d : D} (h : Val e ds M (.tup xs)) (h2 : Val e2 ds M (.int i)) (hi : atI xs i = some d) : Val (dOp dIx e e2) ds M d := v_op h h2 fun K k => by
  show ixL xs (.int i) M K
  unfold ixL
  simp only [hi]
  exact k
theorem v_slTup {xs ys : List D} {lo hi : Option Int} {ul uh : DO} (h : Val e ds M (.tup xs)) (hl : ∀ Q, Q lo M → ul ds M Q) (hh : ∀ Q, Q hi M → uh ds M Q) (hn : ¬ (HT.sIx xs.length 0 lo = 0 ∧ HT.sIx xs.length xs.length hi = xs.length)) (hc : cutD xs lo hi = ys) : Val (dSl e ul uh) ds M (.tup ys) := fun Q q =>
  h _ (hl _ (hh _ (show Q (.tup (cutD xs lo hi)) M by rw [hc]; exact q)))
theorem v_slL {xs ys : List D} {lo hi : Option Int} {ul uh : DO} (h : Val e ds M x) (hx : seqOf M x = some xs) (hl : ∀ Q, Q lo M → ul ds M Q) (hh : ∀ Q, Q hi M → uh ds M Q) (hc : cutD xs lo hi = ys) : Val (dSl e ul uh) ds M (.lst ys) := fun Q q =>
  h _ (hl _ (hh _ (sl_seq hx lo hi _ (by rw [hc]; exact q))))
theorem v_addL {xs ys : List D} {y : D} {e2 : DE} (h : Val e ds M x) (h2 : Val e2 ds M y) (hx : seqOf M x = some xs) (hy : seqOf M y = some ys) (hl : xs.length + ys.length ≤ 1000000) : Val (dOp dAdd e e2) ds M (.lst (xs ++ ys)) := v_op h h2 fun Q q => by
  have a : addL xs y M Q := by
    unfold addL
    simp only [hy]
    exact ⟨size_le hl, q⟩
  cases x with
  | lst zs => cases hx; exact a
  | loc n =>
    show dAdd (.loc n) y M Q
    unfold dAdd
    simp only [seq_loc hx]
    exact a
  | _ => simp [seqOf] at hx
theorem v_lt {i j : Int} {e2 : DE} (h : Val e ds M (.int i)) (h2 : Val e2 ds M (.int j)) : Val (dOp dLt e e2) ds M (.bl (decide (i < j))) := v_op h h2 fun K k => k
theorem v_gt {i j : Int} {e2 : DE} (h : Val e ds M (.int i)) (h2 : Val e2 ds M (.int j)) : Val (dOp dGt e e2) ds M (.bl (decide (j < i))) := v_op h h2 fun K k => k
theorem v_le {i j : Int} {e2 : DE} (h : Val e ds M (.int i)) (h2 : Val e2 ds M (.int j)) : Val (dOp dLe e e2) ds M (.bl (decide (i ≤ j))) := v_op h h2 fun K k => k
theorem v_ge {i j : Int} {e2 : DE} (h : Val e ds M (.int i)) (h2 : Val e2 ds M (.int j)) : Val (dOp dGe e e2) ds M (.bl (decide (j ≤ i))) := v_op h h2 fun K k => k
theorem v_eqI {i j : Int} {e2 : DE} (h : Val e ds M (.int i)) (h2 : Val e2 ds M (.int j)) : Val (dOp dEq e e2) ds M (.bl (decide (i = j))) := v_op h h2 fun K k => k
theorem v_neI {i j : Int} {e2 : DE} (h : Val e ds M (.int i)) (h2 : Val e2 ds M (.int j)) : Val (dOp dNe e e2) ds M (.bl (!decide (i = j))) := v_op h h2 fun K k => k
theorem v_addI {i j : Int} {e2 : DE} (h : Val e ds M (.int i)) (h2 : Val e2 ds M (.int j)) : Val (dOp dAdd e e2) ds M (.int (i + j)) := v_op h h2 fun K k => k
theorem v_subI {i j : Int} {e2 : DE} (h : Val e ds M (.int i)) (h2 : Val e2 ds M (.int j)) : Val (dOp dSub e e2) ds M (.int (i - j)) := v_op h h2 fun K k => k
theorem v_c {d : D} : Val (dC d) ds M d := fun K k => k
theorem v_isN {e : DE} {d : D} (h : Val e ds M d) : Val (dOp dIs e (dC .non)) ds M (.bl d.isNon) := v_op h v_c fun K k => k
theorem v_notN {e : DE} {d : D} (h : Val e ds M d) : Val (dOp dIsNot e (dC .non)) ds M (.bl (!d.isNon)) := v_op h v_c fun K k => k
theorem v_tup3 {e1 e2 e3 : DE} {x y z : D} (h1 : Val e1 ds M x) (h2 : Val e2 ds M y) (h3 : Val e3 ds M z) : Val (dTup (dCons e1 (dCons e2 (dCons e3 dNil)))) ds M (.tup [x, y, z]) :=
  fun Q q => h1 _ (h2 _ (h3 _ ⟨size_le (by simp), q⟩))
theorem v_frz {n : Nat} {xs : List D} (h : Val e ds M (.loc n)) (hm : M[n]? = some (.lst xs)) {K : DK} (k : K (.lst xs) (M.set n .gone)) : dFrz e ds M K := h _ (by
  simp only [hm]
  exact k)
/-! a tuple of which the lists of the store stand for good from now on -/
def frzL : List D → MM → (List D → MM → Prop) → Prop
  | [], M, Q => Q [] M
  | .loc n :: r, M, Q => match M[n]? with
    | some (.lst xs) => frzL r (M.set n .gone) fun ys M2 => Q (.lst xs :: ys) M2
    | _ => False
  | x :: r, M, Q => frzL r M fun ys M2 => Q (x :: ys) M2
theorem frzL_ok {K : KB} : ∀ {xs : List D} {vs : List V} {g : G} {H : Hp} {M : MM} {Q : List D → MM → Prop}, RelM K g H M → RelL K g xs vs → frzL xs M Q → ∃ g' M' ys, Gx g H g' H ∧ RelM K g' H M' ∧ RelL K g' ys vs ∧ Q ys M'
  | [], vs, g, H, M, Q, r, rl, q => ⟨g, M, [], Gx.refl g H, r, rl, q⟩
  | x :: xs, vs, g, H, M, Q, r, rl, q => by
    cases rl with
    | cons h rr =>
    rename_i v vs
    by_cases hx : ∃ n, x = .loc n
    · obtain ⟨n, rfl⟩ := hx
      cases h with
      | loc h1 =>
      unfold frzL at q
      split at q
      · rename_i zs e
        obtain ⟨g2, x2, r2, rd⟩ := r.freeze h1 e
        obtain ⟨g3, M3, ys, x3, r3, l3, q3⟩ := frzL_ok r2 (rr.mono x2.gr) q
        exact ⟨g3, M3, _, x2.trans x3, r3, .cons (rd.mono x3.gr) l3, q3⟩
      · exact q.elim
    · have q' : frzL xs M fun ys M2 => Q (x :: ys) M2 := by
        cases x with
        | loc n => exact absurd ⟨n, rfl⟩ hx
        | _ => exact q
      obtain ⟨g3, M3, ys, x3, r3, l3, q3⟩ := frzL_ok r rr q'
      exact ⟨g3, M3, _, x3, r3, .cons (h.mono x3.gr) l3, q3⟩
def dFrzT (ue : DE) : DE := fun ds M Q => ue ds M fun x M1 => match x with
  | .tup xs => frzL xs M1 fun ys M2 => Q (.tup ys) M2
  | _ => False
theorem xfrzT {X : CB} {e : Expr} {ue : DE} (h : XE X e ue) : XE X e (dFrzT ue) := by
  obtain ⟨t, p, l⟩ := h.ex
  refine ⟨_, p, fun g H σ ds M r s Q q R k => l g H σ ds M r s _ q _ fun g1 H1 M1 x v x1 r1 rx q1 => ?_⟩
  cases rx with
  | tup h1 h2 =>
    obtain ⟨g2, M2, ys, x2, r2, l2, q2⟩ := frzL_ok r1 h2 q1
    exact k g2 H1 _ _ _ (x1.trans x2) r2 (.tup (same_t x2.gr.f h1) l2) q2
  | _ => exact q1.elim
theorem for_rng {gt : DG} {b : DS} {DD : DEnds} {n : Nat} (h : Val e ds M (.int (n : Int))) (hn : n ≤ 1000000) (k : dLoop noChk gt b DD (rngD 0 n) ds M) : dFor (dRng1 (dCons e dNil)) gt b DD ds M := h _ ⟨by omega, by omega, by
  rw [Int.toNat_natCast]
  exact k⟩
theorem v_call3 {sp : DSp} {e1 e2 e3 : DE} {x y z d : D} (h1 : Val e1 ds M x) (h2 : Val e2 ds M y) (h3 : Val e3 ds M z) (h : ∀ Q : DK, Q d M → sp [x, y, z] M Q) : Val (dCall sp (dCons e1 (dCons e2 (dCons e3 dNil)))) ds M d :=
  fun Q q => h1 _ (h2 _ (h3 _ (h Q q)))
theorem v_call4 {sp : DSp} {e1 e2 e3 e4 : DE} {x y z w d : D} (h1 : Val e1 ds M x) (h2 : Val e2 ds M y) (h3 : Val e3 ds M z) (h4 : Val e4 ds M w) (h : ∀ Q : DK, Q d M → sp [x, y, z, w] M Q) : Val (dCall sp (dCons e1 (dCons e2 (dCons e3 (dCons e4 dNil))))) ds M d :=
  fun Q q => h1 _ (h2 _ (h3 _ (h4 _ (h Q q))))
theorem v_tup4 {e1 e2 e3 e4 : DE} {x y z w : D} (h1 : Val e1 ds M x) (h2 : Val e2 ds M y) (h3 : Val e3 ds M z) (h4 : Val e4 ds M w) : Val (dTup (dCons e1 (dCons e2 (dCons e3 (dCons e4 dNil))))) ds M (.tup [x, y, z, w]) :=
  fun Q q => h1 _ (h2 _ (h3 _ (h4 _ ⟨size_le (by simp), q⟩)))
theorem v_lst3 {e1 e2 e3 : DE} {x y z : D} (h1 : Val e1 ds M x) (h2 : Val e2 ds M y) (h3 : Val e3 ds M z) : Val (dLst (dCons e1 (dCons e2 (dCons e3 dNil)))) ds M (.lst [x, y, z]) :=
  fun Q q => h1 _ (h2 _ (h3 _ ⟨size_le (by simp), q⟩))
theorem v_lst4 {e1 e2 e3 e4 : DE} {x y z w : D} (h1 : Val e1 ds M x) (h2 : Val e2 ds M y) (h3 : Val e3 ds M z) (h4 : Val e4 ds M w) : Val (dLst (dCons e1 (dCons e2 (dCons e3 (dCons e4 dNil))))) ds M (.lst [x, y, z, w]) :=
  fun Q q => h1 _ (h2 _ (h3 _ (h4 _ ⟨size_le (by simp), q⟩)))
/-- the store with one thing that changes and a new one -/
theorem two_of {M : MM} {j : Nat} {mo : MO} (hm : M[j]? = some mo) : ∃ S : MO → MO → MM, (∀ X, M ++ [X] = S mo X) ∧ (∀ m X, (S m X)[j]? = some m) ∧ (∀ m X, (S m X)[M.length]? = some X) ∧ (∀ m X m', (S m X).set j m' = S m' X) ∧ (∀ m X Y, (S m X).set M.length Y = S m Y) ∧ ∀ m X, S m X = M.set j m ++ [X] := by
  obtain ⟨hj, h2⟩ := List.getElem?_eq_some_iff.mp hm
  refine ⟨fun m X => M.set j m ++ [X], fun X => ?_, fun m X => ?_, fun m X => ?_, fun m X m' => ?_, fun m X Y => ?_, fun m X => rfl⟩
  · show M ++ [X] = M.set j mo ++ [X]
    rw [← h2, List.set_getElem_self]
  · rw [List.getElem?_append_left (by rw [List.length_set]; exact hj), List.getElem?_set_self hj]
  · have := storeL (M.set j m) X
    rw [List.length_set] at this
    exact this
  · show (M.set j m ++ [X]).set j m' = _
    rw [List.set_append_left _ _ (by rw [List.length_set]; exact hj), List.set_set]
  · have := storeS (M.set j m) X Y
    rw [List.length_set] at this
    exact this
theorem t_some {xs : List D} (h : Val e ds M x) (hx : seqOf M x = some xs) : Tst (dTest (dOp dGt (dCB (a1 lenD) (dCons e dNil)) (dC (.int 0)))) ds M (!xs.isEmpty) := t_val (v_op (v_lenS h hx) v_c fun K k => by
  have : decide ((0 : Int) < ((xs.length : Nat) : Int)) = !xs.isEmpty := by
    cases xs with
    | nil => rfl
    | cons a l => exact decide_eq_true (by rw [List.length_cons]; omega)
  show K (.bl (decide _)) _
  rw [this]
  exact k)
theorem t_some1 {xs : List D} (h : Val e ds M x) (hx : seqOf M x = some xs) (hn : xs ≠ []) : Tst (dTest (dOp dGt (dCB (a1 lenD) (dCons e dNil)) (dC (.int 0)))) ds M true := by
  have := t_some h hx
  cases xs with
  | nil => exact absurd rfl hn
  | cons a l => exact this
theorem if_and {t u : DT} {s1 s2 : DS} {DD : DEnds} (h : Tst t ds M true) (k : dIfS u s1 s2 DD ds M) : dIfS (dAnd t u) s1 s2 DD ds M := h _ (by
  rw [if_pos rfl]
  exact k)
theorem if_or {t u : DT} {s1 s2 : DS} {DD : DEnds} (h : Tst t ds M false) (k : dIfS u s1 s2 DD ds M) : dIfS (dOr t u) s1 s2 DD ds M := h _ (by
  rw [if_neg Bool.false_ne_true]
  exact k)
end AX

/-! try .. except C: without a name; xs.index(x) -/
namespace AX
open PySem L2
/-- as dTryAs, without a name -/
def dTryO (which : Str → Option Bool) (ub : DWX → DS) (us : Str → D → DS) (wd : DWX) : DS := fun DD ds M =>
  ub (fun ds1 nm d M1 => match which nm with
    | some true => us nm d DD ds1 M1
    | some false => wd ds1 nm d M1
    | none => False) DD ds M
theorem s_tryO1 {X : CB} {x : Str} {c : Value} {which : Str → Option Bool} {body suite : List Stmt} {b0 : Stmt} {np pos pos' : Pos} {ub : DWX → DS} {us : Str → D → DS} {wd : DWX} (hF : Flies X wd) (hc : Names X x c)
    (hw : ∀ nm C b, X.mg nm = some (.ref C) → which nm = some b → PySem.W.exmOne X.X.K (.ref C) c = some b)
    (hb : ∀ (pn : List (Addr × Obj)) (xe : Value → Shared → Prop) (g1 : G) (H1 : Hp) (wd' : DWX), Flies ⟨X.X.tr pn xe, g1, H1⟩ wd' → PassesOwn (model X.prog X.w) X.A X.env xe → XSs ⟨X.X.tr pn xe, g1, H1⟩ body (ub wd'))
    (hs : ∀ (a : Addr) (oe : Obj) (cls : Value) (d : Option Addr) (pn : List (Addr × Obj)) (g1 : G) (H1 : Hp) (nm : Str) (at_ : D), Zc cls d oe → (∃ vs, oe.data = .fields vs) → RelX X.X.K X.mg g1 cls d nm at_ → XSs ⟨X.X.suite a ((a, oe) :: pn), g1, H1⟩ (b0 :: suite) (us nm at_))
    (hst : X.X.stack = X.env :: X.X.outer := by rfl) (hfr : X.env.frame = some X.env.locals := by rfl) :
    XS X (.Try body [.ExceptHandler (some (.Name x np)) none (b0 :: suite) pos'] [] [] pos) (dTryO which ub us wd) := by
  obtain ⟨Wo, tko, hWo⟩ := hF.ex
  let tb : WX → TS := fun W D σ H => ∃ g ds M DD wd', RelM ⟨X.X.K, g, H⟩ g H M ∧ RelS X.X.K g σ ds ∧ WRel ⟨X.X.K, g, H⟩ X.mg W wd' ∧ ub wd' DD ds M ∧ LEnds ⟨X.X.K, g, H⟩ g H DD D
  let ts : Addr → Value → Option Addr → TS := fun a cls d D σ H => ∃ g ds M DD nm at_, RelM ⟨X.X.K, g, H⟩ g H M ∧ RelS X.X.K g σ ds ∧ RelX X.X.K X.mg g cls d nm at_ ∧ us nm at_ DD ds M ∧ LEnds ⟨X.X.K, g, H⟩ g H DD D
  refine ⟨_, ps_try_only (tb := tb) (ts := ts) (Wout := Wo) hst hfr hc tko (fun W pn xe tk po => ⟨fun pins s σ H D I h => ?_⟩) (fun a oe cls d pn hz hf => ⟨fun pins s σ H D I h => ?_⟩), fun g H σ ds M r s DD q D k => ?_⟩
  · obtain ⟨g, ds, M, DD, wd', r, s', hW, q, k⟩ := h
    obtain ⟨t, p, l⟩ := (hb pn xe g H wd' ⟨W, tk, hW⟩ po).ex
    exact p.run pins s σ H D I (l g H σ ds M r s' DD q D k)
  · obtain ⟨g, ds, M, DD, nm, at_, r, s', rx, q, k⟩ := h
    obtain ⟨t, p, l⟩ := (hs a oe cls d pn g H nm at_ hz hf rx).ex
    exact p.run pins s σ H D I (l g H σ ds M r s' DD q D k)
  · refine ⟨g, ds, M, DD, _, r.start, s, fun g1 H1 σ1 ds1 M1 cls d nm at_ r1 s1 rx e => ?_, q, LEnds.base r (Gx.refl g H) k⟩
    obtain ⟨C, dd, fs, v, rfl, hmC, rest⟩ := rx.ex
    have e' := e
    split at e'
    · rename_i hb1
      refine ⟨true, hw nm C true hmC hb1, fun _ a ha => ⟨g1, ds1, M1, DD, nm, at_, r1.start, s1, rx, e', ?_⟩, fun z => by cases z⟩
      exact LEnds.base (r1.base (K' := X.K) rfl (r.up.trans r1.up)) r1.up k
    · rename_i hb1
      refine ⟨false, hw nm C false hmC hb1, fun z => (by cases z), fun _ => ?_⟩
      exact hWo g1 H1 σ1 ds1 M1 _ d nm at_ (r1.base (K' := X.K) rfl (r.up.trans r1.up)) s1 rx e'
    · exact e'.elim
theorem s_tryO {X : CB} {x : Str} {wl : List (Str × Bool)} {body suite : List Stmt} {b0 : Stmt} {np pos pos' : Pos} {ub : DWX → DS} {us : Str → D → DS} {wd : DWX} (hF : Flies X wd) (hh : Hnd X.X.K X.mg x wl)
    (hb : ∀ (pn : List (Addr × Obj)) (xe : Value → Shared → Prop) (g1 : G) (H1 : Hp) (wd' : DWX), Flies ⟨X.X.tr pn xe, g1, H1⟩ wd' → PassesOwn (model X.prog X.w) X.A X.env xe → XSs ⟨X.X.tr pn xe, g1, H1⟩ body (ub wd'))
    (hs : ∀ (a : Addr) (oe : Obj) (cls : Value) (d : Option Addr) (pn : List (Addr × Obj)) (g1 : G) (H1 : Hp) (nm : Str) (at_ : D), Zc cls d oe → (∃ vs, oe.data = .fields vs) → RelX X.X.K X.mg g1 cls d nm at_ → XSs ⟨X.X.suite a ((a, oe) :: pn), g1, H1⟩ (b0 :: suite) (us nm at_))
    (hg : Gl X x := by rfl) (hd : (x == ("__debug__" : Str)) = false := by decide) (hst : X.X.stack = X.env :: X.X.outer := by rfl) (hfr : X.env.frame = some X.env.locals := by rfl) :
    XS X (.Try body [.ExceptHandler (some (.Name x np)) none (b0 :: suite) pos'] [] [] pos) (dTryO (wlook wl) ub us wd) := by
  obtain ⟨D, hm, hw⟩ := hh.ex
  refine s_tryO1 hF ⟨hg, hd, .inl hm⟩ (fun nm C b h1 h2 => ?_) hb hs hst hfr
  obtain ⟨C', h3, h4⟩ := hw _ (wlook_mem h2)
  have e := h1.symm.trans h3
  cases e
  exact h4
/-! ### xs.index(x) -/
def flatD : D → Bool
  | .int _ => true
  | .str _ => true
  | .bl _ => true
  | .non => true
  | _ => false
/-- the first place of x -/
def idxD : List D → D → Option Nat
  | [], _ => none
  | y :: r, x => if D.eqv y x = true then some 0 else (idxD r x).map (· + 1)
theorem idxD_some : ∀ {ys : List D} {x : D} {j : Nat}, idxD ys x = some j → ∃ z, ys[j]? = some z ∧ D.eqv z x = true ∧ ∀ m z', m < j → ys[m]? = some z' → D.eqv z' x = false
  | [], x, j, h => by cases h
  | y :: r, x, j, h => by
    unfold idxD at h
    by_cases c : D.eqv y x = true
    · rw [if_pos c] at h
      cases h
      exact ⟨y, rfl, c, fun m z' hm => by omega⟩
    · rw [if_neg c] at h
      cases e : idxD r x with
      | none => rw [e] at h; cases h
      | some k =>
        rw [e] at h
        cases h
        obtain ⟨z, h1, h2, h3⟩ := idxD_some e
        refine ⟨z, h1, h2, fun m z' hm hz => ?_⟩
        cases m with
        | zero => cases hz; exact Bool.eq_false_iff.mpr c
        | succ m =>
          have hm' : m + 1 < k + 1 := hm
          exact h3 m z' (by omega) hz
theorem flat_rel {K : PySem.W.Frag} {g : G} {x : D} {v : V} (h : RelD K g x v) (f : flatD x = true) : flatV v = true := by
  cases h <;> first | rfl | (simp [flatD] at f)
theorem flat_eqv {K : PySem.W.Frag} {g : G} {x y : D} {v w : V} (h : RelD K g x v) (h2 : RelD K g y w) (f : flatD x = true) (f2 : flatD y = true) : eqV v w = D.eqv x y := by
  cases h <;> first | (simp [flatD] at f; done) | (cases h2 <;> first | (simp [flatD] at f2; done) | (simp [eqV, D.eqv]; done) | rfl)
def idxM : DMt := fun x vs M Q => match seqOf M x with
  | some xs => match vs with
    | [y] => flatD y = true ∧ xs.all flatD = true ∧ match idxD xs y with
      | some j => Q (.int (j : Int)) M
      | none => False
    | _ => False
  | none => False
theorem lmIdx {K : KB} : LMt K (rIndex K) idxM := fun g H M x v xs vs r rx rl Q q R k => by
  unfold idxM at q
  split at q
  · rename_i zs e
    obtain ⟨p, ws, rfl, hp, rw⟩ := seq_rel r rx e
    split at q
    · rename_i y
      cases rl with
      | cons ry rn =>
      cases rn
      rename_i w
      obtain ⟨fy, fx, q⟩ := q
      split at q
      · rename_i j ej
        obtain ⟨z, hz, hz2, hz3⟩ := idxD_some ej
        have fm : ∀ {n : Nat} {d : D}, zs[n]? = some d → flatD d = true := fun h => List.all_eq_true.mp fx _ (List.mem_of_getElem? h)
        obtain ⟨zv, hv, rz⟩ := rw.got hz
        refine ⟨p, ws, w, j, zv, rfl, rfl, (.inl hp), flat_rel ry fy, List.all_eq_true.mpr fun u hu => ?_, hv, by rw [flat_eqv rz ry (fm hz) fy]; exact hz2, fun m z' hm hz' => ?_, k g H M _ _ (Gx.refl g H) r (.int _) q⟩
        · obtain ⟨n, hn⟩ := List.mem_iff_getElem?.mp hu
          obtain ⟨d, hd, rd⟩ := rw.get hn
          exact flat_rel rd (fm hd)
        · obtain ⟨d, hd, rd⟩ := rw.get hz'
          rw [flat_eqv rd ry (fm hd) fy]
          exact hz3 m d hm hd
      · exact q.elim
    · exact q.elim
  · exact q.elim
theorem xidx {X : CB} {uo : DE} {ua' : DA} {o e : Expr} {apos cpos : Pos} (ho : XE X o uo) (ha : XA X [e] ua')
    (hbase : attributeBase o "index" X.env (eval o X.env) = eval o X.env := by rfl)
    (hfew : ((backTo cpos (starEach [e] X.env)).all (fun x => !x.1) && (backToKw cpos (keywordEach [] X.env)).all (fun x => x.1.isSome)
      && decide (([e] : List Expr).length + ([] : List Keyword).length + (if ([] : List Keyword).isEmpty then 0 else 1) < 30)) = true := by rfl)
    (hline : (apos.endLine == cpos.line) = true := by rfl) (hs : starEach [e] X.env = (false, eval e X.env) :: starEach [] X.env := by rfl) (hplain : (backTo cpos (starEach [] X.env)).any (·.1) = false := by rfl) :
    XE X (.Call (.Attribute o "index" apos) [e] [] cpos) (dBM "list" idxM uo ua') :=
  xbm PySem.F.plainAttrs_list PySem.F.slot_list_index PySem.F.type_list_index mt_index lmIdx ho ha hbase hfew hline hs hplain
theorem idx_ints (ns : List Int) (n : Int) : idxD (ns.map D.int) (.int n) = ns.idxOf? n := by
  induction ns with
  | nil => rfl
  | cons m r ih =>
    rw [List.map_cons, List.idxOf?_cons]
    unfold idxD
    rw [ih]
    simp only [D.eqv]
    rfl
theorem v_index {e e2 : DE} {ds : DEnv} {M : MM} {x : D} {ns : List Int} {n : Int} {j : Nat} (h : Val e ds M x) (h2 : Val e2 ds M (.int n)) (hx : seqOf M x = some (ns.map D.int)) (hj : ns.idxOf? n = some j) : Val (dBM "list" idxM e (dCons e2 dNil)) ds M (.int (j : Int)) := fun Q q => h _ ⟨by
  cases x with
  | lst xs => rfl
  | loc k => simp only [tyD, seq_loc hx]
  | _ => simp [seqOf] at hx, h2 _ (by
  show idxM x [.int n] M Q
  unfold idxM
  simp only [hx, idx_ints, hj]
  refine ⟨rfl, ?_, q⟩
  rw [List.all_map, List.all_eq_true]
  intro _ _
  rfl)⟩
/-- xs * n that is to be changed -/
def dTimesN : D2 := fun x y M Q => match y with
  | .int k => match seqOf M x with
    | some xs => -(2 ^ 63) ≤ k ∧ k < 2 ^ 63 ∧ xs.length * k.toNat ≤ sizeLine ∧ Q (.loc M.length) (M ++ [.lst (List.replicate k.toNat xs).flatten])
    | none => False
  | _ => False
theorem lrTimesN {K : KB} : LR K rMulD dTimesN := fun g H M x y v w r rx ry Q q R k => by
  unfold dTimesN at q
  split at q
  · cases ry
    rename_i j
    split at q
    · rename_i xs e
      obtain ⟨p, vs, rfl, hp, rl⟩ := seq_rel r rx e
      obtain ⟨q1, q2, q3, q⟩ := q
      refine .inr (.inl ⟨p, j, vs, rfl, rfl, hp, q1, q2, by rw [← rl.len]; exact q3, fun l hl => ?_⟩)
      obtain ⟨g2, x2, r2, rd⟩ := newM r (rl.flat j.toNat) hl
      exact k g2 _ _ _ _ x2 r2 rd q
    · exact q.elim
  · exact q.elim
theorem rep_flat {α : Type} (a : α) : ∀ n : Nat, (List.replicate n [a]).flatten = List.replicate n a
  | 0 => rfl
  | n + 1 => by
    rw [List.replicate_succ, List.flatten_cons, rep_flat a n]
    rfl
section
variable {α : Type} {ut : DT} {ue e e2 : DE} {ds : DEnv} {M : MM} {x : D} {vs : List Nat}
theorem v_lcRi (i : Nat) (j : Int) (n : Nat) (p : Nat → Bool) (g : Nat → D) (h : Val e ds M (.int j)) (hj : j.toNat = n) (lo : -1000000 ≤ j) (hl : n ≤ 1000000)
    (ht : ∀ k, k < n → Tst ut ((wipeD ds vs).set i (some (.int (k : Int)))) M (p k))
    (he : ∀ k, k < n → p k = true → Val ue ((wipeD ds vs).set i (some (.int (k : Int)))) M (g k)) : Val (dLc (dRng1 (dCons e dNil)) (dgN i) ut ue vs) ds M (.lst (((List.range n).filter p).map g)) := fun Q q => h _ ⟨by omega, by omega, by
  rw [hj, rng_map]
  exact lc_filtN (Q := fun ys M2 => Q (.lst ys) M2) i _ p g _ trivial (fun k hk => ht k (List.mem_range.mp hk)) (fun k hk => he k (List.mem_range.mp hk)) (by rw [List.length_range]; exact size_le hl) q⟩
theorem for_rngI {gt : DG} {b : DS} {DD : DEnds} {j : Int} {n : Nat} (h : Val e ds M (.int j)) (hj : j.toNat = n) (lo : -1000000 ≤ j) (hn : n ≤ 1000000) (k : dLoop noChk gt b DD (rngD 0 n) ds M) : dFor (dRng1 (dCons e dNil)) gt b DD ds M := h _ ⟨by omega, by omega, by
  rw [hj]
  exact k⟩
theorem v_anyM (f : α → Bool) (l : List α) (h : Val e ds M (.lst (l.map fun a => D.bl (f a)))) : Val (dCB anyL (dCons e dNil)) ds M (.bl (l.any f)) := by
  have := v_any (e := e) (ds := ds) (M := M) (bs := l.map f) (by rw [List.map_map]; exact h)
  rw [List.any_map] at this
  exact this
theorem v_allM (f : α → Bool) (l : List α) (h : Val e ds M (.lst (l.map fun a => D.bl (f a)))) : Val (dCB allL (dCons e dNil)) ds M (.bl (l.all f)) := by
  have := v_all (e := e) (ds := ds) (M := M) (bs := l.map f) (by rw [List.map_map]; exact h)
  rw [List.all_map] at this
  exact this
theorem v_notV {b : Bool} (h : Val e ds M (.bl b)) : Val (dNotV e) ds M (.bl (!b)) := fun Q q => h _ q
theorem v_modI {i j : Int} (h : Val e ds M (.int i)) (h2 : Val e2 ds M (.int j)) (hj : 0 < j) : Val (dOp dMod e e2) ds M (.int (i % j)) := v_op h h2 fun K k => ⟨hj, k⟩
theorem v_fdivI {i j : Int} (h : Val e ds M (.int i)) (h2 : Val e2 ds M (.int j)) (hj : 0 < j) (hl : j.natAbs < 2 ^ 64) : Val (dOp dFdiv e e2) ds M (.int (i / j)) := v_op h h2 fun K k => ⟨⟨hj, Nat.lt_trans (small_log hl) (by decide)⟩, k⟩
theorem v_mulI {i j : Int} (h : Val e ds M (.int i)) (h2 : Val e2 ds M (.int j)) (hj : -(2 ^ 64) < i ∧ i < 2 ^ 64) : Val (dOp dTimes e e2) ds M (.int (i * j)) := v_op h h2 fun K k => ⟨.inl (.inl hj), k⟩
theorem v_mulI2 {i j : Int} (h : Val e ds M (.int i)) (h2 : Val e2 ds M (.int j)) (hj : -(2 ^ 64) < j ∧ j < 2 ^ 64) : Val (dOp dTimes e e2) ds M (.int (i * j)) := v_op h h2 fun K k => ⟨.inl (.inr hj), k⟩
theorem v_int {i : Int} (h : Val e ds M (.int i)) : Val (dCB (a1 intD) (dCons e dNil)) ds M (.int i) := v_cb1 h fun K k => k
theorem v_lst0 : Val (dLst dNil) ds M (.lst []) := fun Q q => ⟨size_le (by simp), q⟩
theorem v_listOf {xs : List D} (h : Val e ds M x) (hx : seqOf M x = some xs) : Val (dCB (a1 listD) (dCons e dNil)) ds M (.lst xs) := v_cb1 h fun K k => list_seq hx K k
theorem v_lenN {xs : List D} (h : Val e ds M x) (hx : seqOf M x = some xs) {n : Nat} (hn : xs.length = n) : Val (dCB (a1 lenD) (dCons e dNil)) ds M (.int (n : Int)) := by
  rw [← hn]
  exact v_lenS h hx
/-- two tests -/
theorem t_and {t u : DT} {a b : Bool} (h : Tst t ds M a) (h2 : a = true → Tst u ds M b) : Tst (dAnd t u) ds M (a && b) := by
  cases a with
  | true => exact t_andR h (h2 rfl)
  | false => exact t_andL h
theorem t_or {t u : DT} {a b : Bool} (h : Tst t ds M a) (h2 : a = false → Tst u ds M b) : Tst (dOr t u) ds M (a || b) := by
  cases a with
  | true => exact t_orL h
  | false => exact t_orR h (h2 rfl)
theorem t_notB {t : DT} {a : Bool} (h : Tst t ds M a) : Tst (dNot t) ds M (!a) := t_not (by rw [Bool.not_not]; exact h)
theorem if_b {t : DT} {s1 s2 : DS} {DD : DEnds} {b : Bool} (h : Tst t ds M b) (h1 : b = true → s1 DD ds M) (h2 : b = false → s2 DD ds M) : dIfS t s1 s2 DD ds M := by
  cases b with
  | true => exact if1 h (h1 rfl)
  | false => exact if0 h (h2 rfl)
theorem v_andV {a b : Bool} (h : Val e ds M (.bl a)) (h2 : a = true → Val e2 ds M (.bl b)) : Val (dAndV e e2) ds M (.bl (a && b)) := fun Q q => by
  cases a with
  | true => exact andV_yes h (h2 rfl _ q)
  | false => exact andV_no h q
end
/-- natural numbers as data -/
abbrev nI (n : Nat) : D := .int (n : Int)
theorem nI_eqv (a b : Nat) : D.eqv (nI a) (nI b) = decide (a = b) := by
  simp only [nI, D.eqv]
  rw [Bool.eq_iff_iff]
  simp
  omega
theorem memD_map {α : Type} [DecidableEq α] {f : α → D} (h : ∀ a b, D.eqv (f a) (f b) = decide (a = b)) (x : α) (l : List α) : D.mem (f x) (l.map f) = decide (x ∈ l) := by
  unfold D.mem
  rw [List.any_map, Bool.eq_iff_iff]
  simp only [List.any_eq_true, Function.comp, h, decide_eq_true_eq]
  constructor
  · rintro ⟨y, hy, rfl⟩
    exact hy
  · intro hx
    exact ⟨x, hx, rfl⟩
theorem nI_mem (x : Nat) (l : List Nat) : D.mem (nI x) (l.map nI) = decide (x ∈ l) := by
  rw [memD_map nI_eqv]
theorem fits_map {α : Type} {f : α → D} {n : Nat} (h : ∀ a, (f a).fit n) (l : List α) : ∀ y ∈ l.map f, y.fit n := fun y hy => by
  obtain ⟨a, _, rfl⟩ := List.mem_map.mp hy
  exact h a
theorem fit_map {α : Type} {f : α → D} {n : Nat} (h : ∀ a, (f a).fit n) (l : List α) (hl : l.length ≤ 1000000) : (D.lst (l.map f)).fit (n + 1) :=
  fit_lst (by rw [List.length_map]; exact hl) (fits_map h l)
theorem fit_nI (l : List Nat) (hl : l.length ≤ 1000000) : (D.lst (l.map nI)).fit 1 := fit_map (fun a => fit_int _ _) l hl
theorem v_inN {e e2 : DE} {ds : DEnv} {M : MM} {y : D} {a : Nat} {l : List Nat} (h : Val e ds M (nI a)) (h2 : Val e2 ds M y) (hy : seqOf M y = some (l.map nI)) : Val (dOp dIn e e2) ds M (.bl (decide (a ∈ l))) := by
  rw [← nI_mem]
  exact v_inD h h2 hy (fit_int _ 1) (fits_map (fun a => fit_int _ _) l) (by decide)
theorem v_notInN {e e2 : DE} {ds : DEnv} {M : MM} {y : D} {a : Nat} {l : List Nat} (h : Val e ds M (nI a)) (h2 : Val e2 ds M y) (hy : seqOf M y = some (l.map nI)) : Val (dOp dNotIn e e2) ds M (.bl (!decide (a ∈ l))) := by
  rw [← nI_mem]
  exact v_notInD h h2 hy (fit_int _ 1) (fits_map (fun a => fit_int _ _) l) (by decide)
theorem idx_nI (ns : List Nat) (n : Nat) : idxD (ns.map nI) (nI n) = ns.idxOf? n := by
  induction ns with
  | nil => rfl
  | cons m r ih =>
    rw [List.map_cons, List.idxOf?_cons]
    unfold idxD
    rw [ih, nI_eqv]
    simp
theorem idx_mem {ns : List Nat} {n : Nat} (h : n ∈ ns) : ns.idxOf? n = some (ns.idxOf n) := by
  induction ns with
  | nil => cases h
  | cons m r ih =>
    rw [List.idxOf?_cons, List.idxOf_cons]
    by_cases c : m = n
    · simp [c]
    · have : n ∈ r := by
        rcases List.mem_cons.mp h with z | z
        · exact absurd z.symm c
        · exact z
      have c' : (m == n) = false := by simpa using c
      simp [c', ih this]
theorem v_indexN {e e2 : DE} {ds : DEnv} {M : MM} {x : D} {ns : List Nat} {n : Nat} (h : Val e ds M x) (h2 : Val e2 ds M (nI n)) (hx : seqOf M x = some (ns.map nI)) (hj : n ∈ ns) : Val (dBM "list" idxM e (dCons e2 dNil)) ds M (nI (ns.idxOf n)) := fun Q q => h _ ⟨by
  cases x with
  | lst xs => rfl
  | loc k => simp only [tyD, seq_loc hx]
  | _ => simp [seqOf] at hx, h2 _ (by
  show idxM x [nI n] M Q
  unfold idxM
  simp only [hx, idx_nI, idx_mem hj]
  refine ⟨rfl, ?_, q⟩
  rw [List.all_map, List.all_eq_true]
  intro _ _
  rfl)⟩
/-- xs[i] = v -/
theorem asg_sub {uo ui ev : DE} {ds : DEnv} {M : MM} {DD : DEnds} {v o i : D} (hv : Val ev ds M v) (ho : Val uo ds M o) (hi : Val ui ds M i) (k : dSetI o i v M fun M3 => DD.nx ds M3) : dAsg ev (dgSub uo ui) DD ds M := hv _ (ho _ (hi _ k))
theorem asg_at {uo ui ev : DE} {ds : DEnv} {M : MM} {DD : DEnds} {v : D} {n j : Nat} {xs : List D} (hv : Val ev ds M v) (ho : Val uo ds M (.loc n)) (hi : Val ui ds M (nI j)) (hm : M[n]? = some (.lst xs)) (hj : j < xs.length) (k : DD.nx ds (M.set n (.lst (xs.set j v)))) : dAsg ev (dgSub uo ui) DD ds M :=
  asg_sub hv ho hi (by
    unfold dSetI
    simp only [hm, ixN_at hj]
    exact k)
theorem v_callX1 {sp : DSpX} {wd : DWX} {e1 : DE} {ds : DEnv} {M : MM} {x : D} {Q : DK} (h1 : Val e1 ds M x) (h : sp [x] M Q (wd ds)) : dCallX sp wd (dCons e1 dNil) ds M Q := h1 _ h
theorem v_callX2 {sp : DSpX} {wd : DWX} {e1 e2 : DE} {ds : DEnv} {M : MM} {x y : D} {Q : DK} (h1 : Val e1 ds M x) (h2 : Val e2 ds M y) (h : sp [x, y] M Q (wd ds)) : dCallX sp wd (dCons e1 (dCons e2 dNil)) ds M Q := h1 _ (h2 _ h)
theorem v_callX3 {sp : DSpX} {wd : DWX} {e1 e2 e3 : DE} {ds : DEnv} {M : MM} {x y z : D} {Q : DK} (h1 : Val e1 ds M x) (h2 : Val e2 ds M y) (h3 : Val e3 ds M z) (h : sp [x, y, z] M Q (wd ds)) : dCallX sp wd (dCons e1 (dCons e2 (dCons e3 dNil))) ds M Q := h1 _ (h2 _ (h3 _ h))
theorem v_callX4 {sp : DSpX} {wd : DWX} {e1 e2 e3 e4 : DE} {ds : DEnv} {M : MM} {x y z w : D} {Q : DK} (h1 : Val e1 ds M x) (h2 : Val e2 ds M y) (h3 : Val e3 ds M z) (h4 : Val e4 ds M w) (h : sp [x, y, z, w] M Q (wd ds)) : dCallX sp wd (dCons e1 (dCons e2 (dCons e3 (dCons e4 dNil)))) ds M Q := h1 _ (h2 _ (h3 _ (h4 _ h)))
theorem s_drop {e : DE} {DD : DEnds} {ds : DEnv} {M : MM} (h : e ds M fun _ M1 => DD.nx ds M1) : dDrop e DD ds M := h
theorem s_ret' {e : DE} {DD : DEnds} {ds : DEnv} {M : MM} (h : e ds M DD.rt) : dRet e DD ds M := h
theorem s_asg' {e : DE} {i : Nat} {DD : DEnds} {ds : DEnv} {M : MM} (h : e ds M fun d M1 => DD.nx (ds.set i (some d)) M1) : dAsg e (dgN i) DD ds M := h
/-- a name of the module that holds a text -/
theorem xgs {X : CB} {x : Str} {i : Str} {pos : Pos} (hg : Gl X x) (hm : ∃ t, X.mg x = some (.str i t)) (hd : (x == ("__debug__" : Str)) = false := by decide) : XE X (.Name x pos) (dC (.str i)) := by
  obtain ⟨t, hm⟩ := hm
  exact ⟨_, pe_glob (v := .str i) hg hm ⟨t, rfl⟩ hd, le_c fun _ => .str i⟩
end AX

/-! texts: join, their order; range with a step -/
namespace AX
open PySem L2
def strsOf : List D → Option (List Str)
  | [] => some []
  | .str i :: r => match strsOf r with
    | some ns => some (i :: ns)
    | none => none
  | _ => none
theorem strsOf_map : ∀ ns : List Str, strsOf (ns.map D.str) = some ns
  | [] => rfl
  | n :: ns => by
    show (match strsOf (ns.map D.str) with
      | some l => some (n :: l)
      | none => none) = _
    rw [strsOf_map ns]
theorem strsOf_eq : ∀ {ds : List D} {ns : List Str}, strsOf ds = some ns → ds = ns.map D.str
  | [], ns, h => by
    cases h
    rfl
  | d :: ds, ns, h => by
    cases d with
    | str i =>
      unfold strsOf at h
      cases e : strsOf ds with
      | none => rw [e] at h; cases h
      | some l =>
        rw [e] at h
        cases h
        rw [strsOf_eq e]
        rfl
    | _ => cases h
/-- sep.join(xs) -/
def joinM : DMt := fun x vs M Q => match x with
  | .str a => match vs with
    | [y] => match seqOf M y with
      | some ys => match strsOf ys with
        | some zs => (zs.map (·.length)).sum + zs.length * a.length ≤ 16777216 ∧ Q (.str (Txt.join a zs)) M
        | none => False
      | none => match y with
        | .tup ys => match strsOf ys with
          | some zs => (zs.map (·.length)).sum + zs.length * a.length ≤ 16777216 ∧ Q (.str (Txt.join a zs)) M
          | none => False
        | _ => False
    | _ => False
  | _ => False
theorem lmJoin {K : KB} : LMt K (fun x xs H Q => ∃ a p, ∃ ys : List Str, x = .str a ∧ xs = [.ref p] ∧ (SqL K H p (ys.map V.str) ∨ SqT K H p (ys.map V.str)) ∧ (ys.map (·.length)).sum + ys.length * a.length ≤ 16777216 ∧ Q (.str (Txt.join a ys)) H) joinM := fun g H M x v xs vs r rx rl Q q R k => by
  unfold joinM at q
  split at q
  · rename_i a
    cases rx
    split at q
    · rename_i y
      cases rl with
      | cons ry rn =>
      cases rn
      rename_i w
      split at q
      · rename_i ys e
        split at q
        · rename_i zs ez
          obtain ⟨p, ws, rfl, hp, rw⟩ := seq_rel r ry e
          have := strsOf_eq ez
          subst this
          have ew := rw.strs
          subst ew
          exact ⟨a, p, zs, rfl, rfl, .inl (.inl hp), q.1, k g H M _ _ (Gx.refl g H) r (.str _) q.2⟩
        · exact q.elim
      · split at q
        · rename_i ys e
          split at q
          · rename_i zs ez
            have := strsOf_eq ez
            subst this
            cases ry with
            | tup h rw =>
              have ew := rw.strs
              subst ew
              exact ⟨a, _, zs, rfl, rfl, .inr (same_t r.ex h), q.1, k g H M _ _ (Gx.refl g H) r (.str _) q.2⟩
          · exact q.elim
        · exact q.elim
    · exact q.elim
  · exact q.elim
theorem xjoin {X : CB} {uo : DE} {ua' : DA} {o e : Expr} {apos cpos : Pos} (ho : XE X o uo) (ha : XA X [e] ua')
    (hbase : attributeBase o "join" X.env (eval o X.env) = eval o X.env := by rfl)
    (hfew : ((backTo cpos (starEach [e] X.env)).all (fun x => !x.1) && (backToKw cpos (keywordEach [] X.env)).all (fun x => x.1.isSome)
      && decide (([e] : List Expr).length + ([] : List Keyword).length + (if ([] : List Keyword).isEmpty then 0 else 1) < 30)) = true := by rfl)
    (hline : (apos.endLine == cpos.line) = true := by rfl) (hs : starEach [e] X.env = (false, eval e X.env) :: starEach [] X.env := by rfl) (hplain : (backTo cpos (starEach [] X.env)).any (·.1) = false := by rfl) :
    XE X (.Call (.Attribute o "join" apos) [e] [] cpos) (dBM "str" joinM uo ua') :=
  xbm PySem.F.plainAttrs_str PySem.F.slot_str_join PySem.F.type_str_join mt_join lmJoin ho ha hbase hfew hline hs hplain
/-! ### the order of texts -/
def dS2 (f : Str → Str → D) : D2 := fun x y M Q => match x with
  | .str i => match y with
    | .str j => Q (f i j) M
    | _ => False
  | _ => False
abbrev dLtS : D2 := dS2 fun i j => .bl (decide (i.cps.toList < j.cps.toList))
abbrev dLeS : D2 := dS2 fun i j => .bl (!decide (j.cps.toList < i.cps.toList))
theorem lrLtS {K : KB} : LR K (fun x y H Q => ∃ i j, x = .str i ∧ y = .str j ∧ Q (.bl (decide (i.cps.toList < j.cps.toList))) H) dLtS := fun g H M x y v w r rx ry Q q R k => by
  cases rx <;> first | exact q.elim | skip
  cases ry <;> first | exact q.elim | skip
  exact ⟨_, _, rfl, rfl, k g H M _ _ (Gx.refl g H) r (.bl _) q⟩
theorem lrLeS {K : KB} : LR K (fun x y H Q => ∃ i j, x = .str i ∧ y = .str j ∧ Q (.bl (!decide (j.cps.toList < i.cps.toList))) H) dLeS := fun g H M x y v w r rx ry Q q R k => by
  cases rx <;> first | exact q.elim | skip
  cases ry <;> first | exact q.elim | skip
  exact ⟨_, _, rfl, rfl, k g H M _ _ (Gx.refl g H) r (.bl _) q⟩
/-! ### range(i, j, c) -/
def rngC (lo c : Int) (n : Nat) : List D := (List.range n).map fun (i : Nat) => D.int (lo + (i : Int) * c)
theorem jok_rngC {K : KB} {g : G} (lo c : Int) (n : Nat) : JOk K g (Itc lo c n) (rngC lo c n) noChk where
  stop := fun g2 H2 M2 i x rm _ hi => by
    have e : (rngC lo c n).length = n := by simp [rngC]
    rw [e] at hi
    exact hi
  go := fun g2 H2 M2 i d x rm _ e => by
    have hl : i < n := by
      have z := (List.getElem?_eq_some_iff.mp e).1
      simpa [rngC] using z
    refine ⟨hl, fun y H' hy => ?_⟩
    obtain ⟨rfl, rfl⟩ := hy
    have ed : d = .int (lo + i * c) := by
      unfold rngC at e
      rw [List.getElem?_map, List.getElem?_range hl] at e
      exact (Option.some.inj e).symm
    subst ed
    exact ⟨g2, Gx.refl g2 H', rm, .int _⟩
def dRng3 (ua : DA) : DI := fun ds M R => ua ds M fun vs M1 => match vs with
  | [.int i, .int j, .int c] => ∃ n, RgC i j c n ∧ R (rngC i c n) noChk M1
  | _ => False
theorem i_rng3 {X : CB} {tg a b c : Expr} {ua : DA} {p pos : Pos} (hg : Gl X "range") (hm : X.mg "range" = none) (ha : XA X [a, b, c] ua)
    (hs : starEach [a, b, c] X.env = (false, eval a X.env) :: starEach [b, c] X.env := by rfl) (hpl : (backTo pos (starEach [b, c] X.env)).any (·.1) = false := by rfl) :
    XI X tg (.Call (.Name "range" p) [a, b, c] [] pos) (dRng3 ua) := by
  obtain ⟨t, p, l⟩ := ha.ex
  refine ⟨_, pi_range3 hg hm p hs hpl, fun g H σ ds M r s R q R' k => l g H σ ds M r s _ q _ fun g1 H1 M1 xs vs x r1 rd q1 => ?_⟩
  split at q1
  · rename_i i j k0
    cases rd with
    | cons h1 h2 =>
      cases h1
      cases h2 with
      | cons h3 h4 =>
        cases h3
        cases h4 with
        | cons h5 h6 =>
          cases h5
          cases h6
          obtain ⟨n, h, q2⟩ := q1
          exact ⟨i, j, k0, n, rfl, h, k g1 H1 M1 _ _ _ x r1 (jok_rngC i k0 n) q2⟩
  · exact q1.elim
/-! ### values of texts -/
variable {e e1 e2 e3 : DE} {ds : DEnv} {M : MM} {x : D}
theorem v_leS {i j : Str} (h : Val e ds M (.str i)) (h2 : Val e2 ds M (.str j)) : Val (dOp dLeS e e2) ds M (.bl (!decide (j.cps.toList < i.cps.toList))) := v_op h h2 fun K k => k
theorem v_ltS {i j : Str} (h : Val e ds M (.str i)) (h2 : Val e2 ds M (.str j)) : Val (dOp dLtS e e2) ds M (.bl (decide (i.cps.toList < j.cps.toList))) := v_op h h2 fun K k => k
theorem v_lenStr {z : Str} (h : Val e ds M (.str z)) (hl : z.length ≤ 1000000) : Val (dCB (a1 lenD) (dCons e dNil)) ds M (.int (z.length : Nat)) := v_cb1 h fun K k => ⟨size_le hl, k⟩
theorem v_eqS {i j : Str} (h : Val e ds M (.str i)) (h2 : Val e2 ds M (.str j)) : Val (dOp dEq e e2) ds M (.bl (i == j)) := v_op h h2 fun K k => eq_str i j M K k
theorem v_neS {i j : Str} (h : Val e ds M (.str i)) (h2 : Val e2 ds M (.str j)) : Val (dOp dNe e e2) ds M (.bl (!(i == j))) := v_op h h2 fun K k => ne_str i j M K k
/-- one sign -/
theorem v_sign {z : Str} {i : Int} {c : Nat} (h : Val e ds M (.str z)) (h2 : Val e2 ds M (.int i)) (hl : z.length ≤ 1000000) (hc : atI z.cps.toList i = some c) : Val (dOp dIx e e2) ds M (.str ⟨#[c]⟩) := v_op h h2 fun K k => ⟨size_le hl, by
  simp only [hc]
  exact k⟩
/-- a part in a text -/
def hasS (z c : Str) : Bool := !(Builtin.Str.occurrences z c 0 z.length 1).isEmpty
theorem v_inStr {z c : Str} (h : Val e ds M (.str c)) (h2 : Val e2 ds M (.str z)) : Val (dOp dIn e e2) ds M (.bl (hasS z c)) := v_op h h2 fun K k => by
  show inG false (.str c) (.str z) M K
  unfold inG
  exact k
theorem v_join {a : Str} {zs : List Str} (h : Val e ds M (.str a)) (h2 : Val e2 ds M (.lst (zs.map D.str))) (hl : (zs.map (·.length)).sum + zs.length * a.length ≤ 16777216) : Val (dBM "str" joinM e (dCons e2 dNil)) ds M (.str (Txt.join a zs)) := fun Q q => h _ ⟨rfl, h2 _ (by
  show joinM (.str a) [.lst (zs.map D.str)] M Q
  unfold joinM
  simp only [seqOf, strsOf_map]
  exact ⟨hl, q⟩)⟩
end AX

/-! x, y = a, b where a name is another block's, too -/
namespace AX
open PySem L2
/-- as dTup, of two -/
def dTupN (ua : DA) : DE := fun ds M Q => ua ds M fun xs M1 => match xs with
  | [v, w] => Q (.tup [v, w]) M1
  | _ => False
theorem xtupN {X : CB} {es : List Expr} {ua : DA} {x1} {pos : Pos} (h : XA X es ua) : XE X (.Tuple es x1 pos) (dTupN ua) := by
  obtain ⟨t, p, l⟩ := h.ex
  refine ⟨_, pe_tup p, fun g H σ ds M r s Q q R k => l g H σ ds M r s _ q _ fun g1 H1 M1 xs vs x1 r1 rx q1 => ?_⟩
  split at q1
  · refine ⟨by rw [← rx.len]; exact size_le (by simp), fun p hp => ?_⟩
    obtain ⟨g2, x2, r2, rd⟩ := newT r1 rx hp
    exact k g2 _ M1 _ _ (x1.trans x2) r2 rd q1
  · exact q1.elim
def dgPar (i j : Nat) : DG := fun d ds M Q => match d with
  | .tup [v, w] => Q ((ds.set i (some v)).set j (some w)) M
  | _ => False
theorem g_par {X : CB} (i j : Nat) {x y : Str} {px py pt : Pos} {kt : Nat} (h : XG X (.Tuple [.Name x px, .Name y py] kt pt) (dgTup 2 (dgCons (dgN i) (dgCons (dgN j) dgNil)))) : XG X (.Tuple [.Name x px, .Name y py] kt pt) (dgPar i j) := by
  obtain ⟨t, p, l⟩ := h.ex
  refine ⟨t, p, fun g H σ ds M d v r s rd Q q R k => l g H σ ds M d v r s rd Q ?_ R k⟩
  unfold dgPar at q
  split at q
  · exact ⟨rfl, q⟩
  · exact q.elim
theorem s_par2 {X : CB} (i j : Nat) {x y : Str} {a b : Expr} {ua : DA} {px py pt pos : Pos} {kt k2 pt2} (ha : XA X [a, b] ua) (hg : XG X (.Tuple [.Name x px, .Name y py] kt pt) (dgTup 2 (dgCons (dgN i) (dgCons (dgN j) dgNil))))
    (hs : swapsWithSole [.Tuple [.Name x px, .Name y py] kt pt] (.Tuple [a, b] k2 pt2) pos.line X.env = pure false := by rfl) (hw : swappedStores [.Tuple [.Name x px, .Name y py] kt pt] (.Tuple [a, b] k2 pt2) X.env = pure none := by rfl)
    (h1 : (assignEach [.Tuple [.Name x px, .Name y py] kt pt] X.env).map (·.2) = [assign (.Tuple [.Name x px, .Name y py] kt pt) X.env] := by rfl) :
    XS X (.Assign [.Tuple [.Name x px, .Name y py] kt pt] (.Tuple [a, b] k2 pt2) pos) (dPar i j ua) := by
  have h : XS X (.Assign [.Tuple [.Name x px, .Name y py] kt pt] (.Tuple [a, b] k2 pt2) pos) (dAsg (dTupN ua) (dgPar i j)) := s_asg (xtupN ha) (g_par i j hg) hs hw h1
  exact h
end AX

/-! dicts of the store: d[k] += v, dict(d) -/
namespace AX
open PySem L2
def dSubAug (uo ui ue : DE) (u : D2) : DS := fun DD ds M => uo ds M fun x M1 => ui ds M1 fun i M2 => match x with
  | .loc n => match M2[n]? with
    | some (.dic kvs) => match dkey i with
      | some k => match dlook kvs k with
        | some d => ue ds M2 fun y M3 => u d y M3 fun z M4 => match M4[n]? with
          | some (.dic kvs2) => kvs2.length < sizeLine ∧ DD.nx ds (M4.set n (.dic (dput kvs2 k z)))
          | _ => False
        | none => False
      | none => False
    | _ => False
  | _ => False
theorem s_subaug {X : CB} {e o i : Expr} {ue uo ui : DE} {tpos pos : Pos} {op : Operator} {r : R2} {u : D2} (hu : X.X.A.units + 64 < cLine) (ho : XE X o uo) (hi : XE X i ui) (he : XE X e ue) (hop : OpR X (inplaceOp op) r) (hr : LR X.K r u)
    (ha : ∀ ov iv new, augStore i ov iv new = (do holding [new, ov, iv] (setItem ov iv new); release [new, ov, iv] []; pure .next) := by intro _ _ _; rfl) :
    XS X (.AugAssign (.Subscript o i tpos) op e pos) (dSubAug uo ui ue u) := by
  obtain ⟨t1, p1, l1⟩ := ho.ex
  obtain ⟨t2, p2, l2⟩ := hi.ex
  obtain ⟨t3, p3, l3⟩ := he.ex
  refine ⟨_, ps_daug (rd := r) (Nat.lt_of_le_of_lt (Nat.add_le_add_left (by decide : 1 ≤ 64) _) hu) p1 p2 p3 hop ha, fun g H σ ds M rm s DD q D k => l1 g H σ ds M rm s _ q _ fun g1 H1 M1 x v x1 r1 rx q1 => l2 g1 H1 σ ds M1 r1 (s.mono x1) _ q1 _ fun g2 H2 M2 y w x2 r2 ry q2 => ?_⟩
  split at q2
  · rename_i n
    have rx2 := rx.mono x2.gr
    cases rx2 with
    | loc h1 =>
      rename_i p
      split at q2
      · rename_i kvs e
        obtain ⟨f, vs, hv, rl⟩ := r2.ob n p _ h1 e
        split at q2
        · rename_i kk ek
          split at q2
          · rename_i d ed
            rcases rl.val (k := kk) with ⟨z, _⟩ | ⟨d', v', z1, z2, z3⟩
            · rw [ed] at z
              cases z
            · rw [ed] at z1
              cases z1
              have ew := dkey_rel ry ek
              subst ew
              refine ⟨p, v', rfl, by rw [← z2]; exact DGet.k hv, l3 g2 H2 σ ds M2 r2 (s.mono (x1.trans x2)) _ q2 _ fun g3 H3 M3 y2 yy x3 r3 ry2 q3 => hr g3 H3 M3 d y2 v' yy r3 (z3.mono x3.gr) ry2 _ q3 _ fun g4 H4 M4 z zz x4 r4 rz q4 => ?_⟩
              have h4 : g4.as[n]? = some p := by
                have := (RelD.loc (K := X.X.K) h1).mono (x3.trans x4).gr
                cases this with
                | loc h => exact h
              dsimp only at q4
              split at q4
              · rename_i kvs2 e4
                obtain ⟨f4, vs4, hv4, rl4⟩ := r4.ob n p _ h4 e4
                obtain ⟨xx, rr⟩ := r4.put (o := .dK (putK vs4 kk zz)) (mo := .dic (dput kvs2 kk z)) h4 f4 ⟨f4, _, upd_same, rl4.put rz⟩
                have x5 := ((x1.trans x2).trans (x3.trans x4)).trans xx
                exact ⟨_, .inl ⟨_, kk, hv4, rfl, by rw [← rl4.len]; exact q4.1, rfl⟩, k.nx g4 _ σ ds _ x5 rr (s.mono x5) q4.2⟩
              · exact q4.elim
          · exact q2.elim
        · exact q2.elim
      · exact q2.elim
  · exact q2.elim
/-- dict(d), d a dict: a new one -/
def dictD (x : D) (M : MM) (Q : DK) : Prop := match x with
  | .loc n => match M[n]? with
    | some (.dic kvs) => Q (.loc M.length) (M ++ [.dic kvs])
    | _ => False
  | _ => False
theorem lcDict {K : KB} : LC K (fun xs H Q => ∃ (a : Addr) (kvs : List (Key × V)), xs = [.ref a] ∧ Rd H a (.dK kvs) ∧ ∀ p, H p = none → Q (.ref p) (upd H p (.dK kvs))) (a1 dictD) := lc_a1 fun g H M x v r rx Q q R k => by
  unfold dictD at q
  split at q
  · rename_i n
    cases rx with
    | loc h1 =>
      rename_i p
      split at q
      · rename_i kvs e
        obtain ⟨f, vs, hv, rl⟩ := r.ob n p _ h1 e
        refine ⟨p, vs, rfl, .inl hv, fun a ha => ?_⟩
        obtain ⟨g2, x2, r2, rd⟩ := pushD r rl ha
        exact k g2 _ _ _ _ x2 r2 rd q
      · exact q.elim
  · exact q.elim
end AX

/-! the keys of a dict of the store, walked while the dict is locked -/
namespace AX
open PySem L2
def keyD : Key → D
  | .inl i => .int i
  | .inr x => .str x
theorem keyD_key (k : Key) : dkey (keyD k) = some k := by cases k <;> rfl
def dKeysI (ue : DE) : DI := fun ds M R => ue ds M fun x M1 => match x with
  | .loc n => match M1[n]? with
    | some (.fdic od ks kvs) => R (kvs.map fun kv => keyD kv.1) (fun M2 => M2[n]? = some (.fdic od ks kvs)) M1
    | _ => False
  | _ => False
theorem RelP.keyAt {K : PySem.W.Frag} {g : G} {κ : Type} : ∀ {ds : List (κ × D)} {vs : List (κ × V)}, RelP K g ds vs → ∀ {i : Nat} {k : κ} {v : V}, vs[i]? = some (k, v) → ∃ d, ds[i]? = some (k, d)
  | _, _, .nil, i, k, v, e => by cases e
  | _, _, .cons (d := d) h r, 0, k, v, e => by
    cases e
    exact ⟨d, rfl⟩
  | _, _, .cons h r, i + 1, k, v, e => RelP.keyAt r (i := i) e
theorem jok_keys {K : KB} {g : G} {n : Nat} {p : Addr} {od : Obj} {ks : List (Key × V)} {kvs : List (Key × D)} (h : g.as[n]? = some p) : JOk K g (Itk p od ks) (kvs.map fun kv => keyD kv.1) (fun M2 => M2[n]? = some (.fdic od ks kvs)) where
  stop := fun g2 H2 M2 i x rm c hi => by
    obtain ⟨_, hv, rl⟩ := rm.ob n p _ (x.at h) c
    exact ⟨hv, by rw [← rl.len]; simpa using hi⟩
  go := fun g2 H2 M2 i d x rm c e => by
    obtain ⟨_, hv, rl⟩ := rm.ob n p _ (x.at h) c
    have hl : i < kvs.length := by
      have z := (List.getElem?_eq_some_iff.mp e).1
      simpa using z
    refine ⟨⟨hv, by rw [← rl.len]; exact hl⟩, fun y H' hy => ?_⟩
    obtain ⟨rfl, k, v, ek, rfl⟩ := hy
    obtain ⟨d2, e2⟩ := rl.keyAt ek
    rw [List.getElem?_map, e2] at e
    cases e
    refine ⟨g2, Gx.refl g2 H', rm, ?_⟩
    cases k with
    | inl i => exact .int _
    | inr z => exact .str _
theorem i_keys {X : CB} {tg iter : Expr} {ue : DE} (h : XE X iter ue) : XI X tg iter (dKeysI ue) := by
  obtain ⟨t, p, l⟩ := h.ex
  refine ⟨_, pi_keys p, fun g H σ ds M r s R q R' k => l g H σ ds M r s _ q _ fun g1 H1 M1 d v x r1 rd q1 => ?_⟩
  cases rd with
  | loc h1 =>
    rename_i n p
    simp only at q1
    split at q1
    · rename_i od ks kvs e
      obtain ⟨_, hv, rl⟩ := r1.ob n p _ h1 e
      exact ⟨p, od, rfl, .inl ⟨ks, hv, k g1 H1 M1 _ _ _ x r1 (jok_keys h1) q1⟩⟩
    · exact q1.elim
  | _ => exact q1.elim
/-- what is worth while the dict of a name is locked -/
def dLockE (i : Nat) (u : DE) : DE := fun ds M Q => match ds[i]? with
  | some (some (.loc n)) => match M[n]? with
    | some (.dic kvs) => ∀ od ks, u ds (M.set n (.fdic od ks kvs)) fun y M2 => M2[n]? = some (.fdic od ks kvs) ∧ Q y (M2.set n (.dic kvs))
    | _ => False
  | _ => False
theorem xlock {X : CB} {e : Expr} {u : DE} (i : Nat) (h : XE X e u) : XE X e (dLockE i u) := by
  obtain ⟨t, p, l⟩ := h.ex
  refine ⟨_, pe_lock p, fun g H σ ds M r s Q q R k => ?_⟩
  unfold dLockE at q
  split at q
  · rename_i n en
    split at q
    · rename_i kvs e
      obtain ⟨v, ev, rv⟩ := s.get i _ en
      cases rv with
      | loc h1 =>
        rename_i a
        obtain ⟨f, ks, hv, rl⟩ := r.ob n a _ h1 e
        refine ⟨a, .dK ks, hv, trivial, fun od => ?_⟩
        obtain ⟨x1, r1⟩ := r.put (o := .frz od (.dK ks)) (mo := .fdic od ks kvs) h1 f ⟨f, upd_same, rl⟩
        refine l g _ σ ds _ r1 (s.mono x1) _ (q od ks) _ fun g2 H2 M2 y v x2 r2 rd q2 => ?_
        have h2 : g2.as[n]? = some a := x2.gr.at h1
        obtain ⟨f2, hv2, rl2⟩ := r2.ob n a _ h2 q2.1
        obtain ⟨x3, r3⟩ := r2.put (o := .dK ks) (mo := .dic kvs) h2 f2 ⟨f2, ks, upd_same, rl2⟩
        exact ⟨hv2, k g2 _ _ y v ((x1.trans x2).trans x3) r3 rd q2.2⟩
    · exact q.elim
  · exact q.elim
end AX

/-! three names at once -/
namespace AX
open PySem L2
def dPar3 (i j l : Nat) (ua : DA) : DS := fun D ds M => ua ds M fun vs M1 => match vs with
  | [u, v, w] => D.nx (((ds.set i (some u)).set j (some v)).set l (some w)) M1
  | _ => False
theorem s_par3 {X : CB} {pos : Pos} (i j l : Nat) {x y z : Str} {a b c : Expr} {ua : DA} {px py pz pt : Pos} {kt k2 pt2} (hc : X.calm = true) (hN : X.N.Nodup) (ha : XA X [a, b, c] ua) (hi : X.N[i]? = some x := by rfl) (hj : X.N[j]? = some y := by rfl) (hl : X.N[l]? = some z := by rfl) (hij : i ≠ j := by decide) (hil : i ≠ l := by decide) (hjl : j ≠ l := by decide)
    (hx : X.env.scope.names.lookup x = some .local := by rfl) (hy : X.env.scope.names.lookup y = some .local := by rfl) (hz : X.env.scope.names.lookup z = some .local := by rfl)
    (hw : swappedStores [.Tuple [.Name x px, .Name y py, .Name z pz] kt pt] (.Tuple [a, b, c] k2 pt2) X.env = pure (some [x, y, z]) := by rfl)
    (hs : swapsWithSole [.Tuple [.Name x px, .Name y py, .Name z pz] kt pt] (.Tuple [a, b, c] k2 pt2) pos.line X.env = pure false := by rfl) :
    XS X (.Assign [.Tuple [.Name x px, .Name y py, .Name z pz] kt pt] (.Tuple [a, b, c] k2 pt2) pos) (dPar3 i j l ua) := by
  obtain ⟨t, p, la⟩ := ha.ex
  refine ⟨_, ps_par3 hc hN hi hj hl hij hil hjl hx hy hz p hw hs, fun g H σ ds M r s DD q D k => la g H σ ds M r s _ q _ fun g1 H1 M1 xs vs x r1 rd q1 => ?_⟩
  cases rd with
  | nil => exact q1.elim
  | cons h1 rd => cases rd with
    | nil => exact q1.elim
    | cons h2 rd => cases rd with
      | nil => exact q1.elim
      | cons h3 rd => cases rd with
        | nil => exact ⟨_, _, _, rfl, k.nx g1 H1 _ _ M1 x r1 ((((s.mono x).set h1 i).set h2 j).set h3 l) q1⟩
        | cons _ _ => exact q1.elim
end AX

/-! the same things, also where they stand in the store -/
namespace PS
open PySem L2 AX
open PB hiding u__law_same use__law_same len__law_same none__law_same same_items same_tail b_same
def u__law_same (sp__law_same : DSp) : DS :=
  (dSeq (dIfS (dTest (dOp dIs (dVar 1) (dC .non)))
  (dRet (dOp dIs (dVar 0) (dC .non))) dNext)
  (dSeq (dIfS (dTest (dCB (a2 isiD) (dCons (dVar 1) (dCons (dC (.ty "bool")) dNil))))
  (dRet (dAndV (dCB (a2 isiD) (dCons (dVar 0) (dCons (dC (.ty "bool")) dNil))) (dOp dEq (dVar 0) (dVar 1)))) dNext)
  (dSeq (dIfS (dTest (dCB (a2 isiD) (dCons (dVar 1) (dCons (dC (.ty "int")) dNil))))
  (dRet (dAndV (dCB (a2 isiD) (dCons (dVar 0) (dCons (dC (.ty "int")) dNil))) (dAndV (dNotV (dCB (a2 isiD) (dCons (dVar 0) (dCons (dC (.ty "bool")) dNil)))) (dOp dEq (dVar 0) (dVar 1))))) dNext)
  (dSeq (dIfS (dTest (dCB (a2 isiD) (dCons (dVar 1) (dCons (dC (.ty "str")) dNil))))
  (dRet (dAndV (dCB (a2 isiD) (dCons (dVar 0) (dCons (dC (.ty "str")) dNil))) (dOp dEq (dVar 0) (dVar 1)))) dNext)
  (dSeq (dIfS (dTest (dCB (a2 isiD) (dCons (dVar 1) (dCons (dC (.ty "dict")) dNil))))
  (dSeq (dIfS (dOr (dNot (dTest (dCB (a2 isiD) (dCons (dVar 0) (dCons (dC (.ty "dict")) dNil))))) (dOr (dTest (dOp dNe (dCB (a1 lenD) (dCons (dVar 0) dNil)) (dCB (a1 lenD) (dCons (dVar 1) dNil)))) (dNot (dTest (dCB allL (dCons (dLockE 1 (dLc (dKeysI (dVar 1)) (dgN 2) dYes (dOp dIn (dVar 2) (dVar 0)) [2])) dNil))))))
  (dRet (dC (.bl false))) dNext)
  (dRet (dCB allL (dCons (dLockE 1 (dLc (dKeysI (dVar 1)) (dgN 2) dYes (dCall sp__law_same (dCons (dOp dIx (dVar 0) (dVar 2)) (dCons (dOp dIx (dVar 1) (dVar 2)) dNil))) [2])) dNil)))) dNext)
  (dSeq (dIfS (dTest (dCB (a2 isiD) (dCons (dVar 1) (dCons (dC (.ty "list")) dNil))))
  (dAsg (dCB (a2 isiD) (dCons (dVar 0) (dCons (dC (.ty "list")) dNil))) (dgN 3)) (dAsg (dCB (a2 isiD) (dCons (dVar 0) (dCons (dC (.ty "tuple")) dNil))) (dgN 3)))
  (dRet (dAndV (dVar 3) (dAndV (dOp dEq (dCB (a1 lenD) (dCons (dVar 0) dNil)) (dCB (a1 lenD) (dCons (dVar 1) dNil))) (dCB allL (dCons (dLc (dRng1 (dCons (dCB (a1 lenD) (dCons (dVar 1) dNil)) dNil)) (dgN 4) dYes (dCall sp__law_same (dCons (dOp dIx (dVar 0) (dVar 4)) (dCons (dOp dIx (dVar 1) (dVar 4)) dNil))) [4]) dNil)))))))))))

local macro_rules | `(tactic| walk_at "ev") => `(tactic| (simp only [dCallX, dRaise, dExF, wlook_hit, dSeq, dAsg, dNew, dC, dgN, dFor, dList, dVar, dIf, dAnd, dOr, dNot, dTest, dOp, dUn, dCB, a1, a2, lenD, dCons, dNil, dNeg, dEq, dNe, dIx, ixL, dAdd, dSub, dI2, dI2C, dFdiv, dMod, dLt, dLe, dGt, dGe, dDrop, dBM, tyD, appD, dIfS, dNext, dRet, dFrz, dPar, dgTup, dgCons, dgNil, dgSub, dWhile, dBrk, dCnt, dRetN, dTupI, dStrI, dLc, dYes, wipeD, dTru, truD, dNoP, dChain, dPow, dShl, dShr, dBand, dBor, dBxor, dMul, dIn, dNotIn, inG, dgN, dAug, dIAdd, onInts, onBls, dSset, max2D, min2D, sumL, allL, anyL, maxL, minL, sortedL, listN, dRng1, dRng2, dTup, dLst, dIs, dIsNot, D.isNon, intD, absD, listD, seqOf, dSl, dNoP, dPart, slD, dTimes, dAndV, dOrV, dNotV, dCall, dDisp, dPairs, dgSub, dSetI, dkey, keysOf, strD, addL, storeA0, storeA, storeB0, storeB, List.length_append, List.append_assoc, List.cons_append, List.nil_append, Int.reduceEq, Int.reduceLT, Int.reduceLE, Int.reduceNeg, Int.reduceAdd, Int.reduceSub, Int.reducePow,
  List.getElem?_cons_zero, List.getElem?_cons_succ, List.set_cons_zero, List.set_cons_succ, List.length_cons, List.length_nil, List.length_map, Nat.reduceAdd, Bool.not_eq_true, Bool.not_true, Bool.not_false, if_true, if_false, Bool.false_eq_true, decide_eq_true_eq, true_and, and_true, reduceCtorEq, ite_true, ite_false, Nat.zero_le, atI0, atI1, atI2, atI3, atI4, atI5, atI6]))
local macro_rules | `(tactic| walk_at "sd") => `(tactic| first | assumption | decide | omega | (exact size_ok (by omega)) | (exact size_le (by omega)) | (unfold TimesOk; omega) | (rw [sizeLine_eq]; decide))
local macro_rules | `(tactic| walk_at "go") => `(tactic| repeat ((with_reducible refine And.intro ?_ ?_); (· walk_at "sd")))
local macro_rules | `(tactic| walk_at "ft") => `(tactic| repeat (first | assumption | exact fit_int _ _ | exact fit_str _ _ | exact fit_bl _ _ | exact fit_non _ | exact fits_nil | refine fits_cons ?_ ?_ | exact fit_ints _ (by omega) _ | refine fit_lst (by simp only [List.length_cons, List.length_nil]; omega) ?_ | refine fit_tup (by simp only [List.length_cons, List.length_nil]; omega) ?_))
local macro_rules | `(tactic| walk_at "fo") => `(tactic| repeat ((with_reducible refine And.intro ?_ ?_); (· first | exact ⟨rfl, rfl⟩ | exact ⟨rfl, rfl, Nat.le_of_ble_eq_true rfl, Nat.le_of_ble_eq_true rfl⟩ | exact size_le (by decide))))
local macro_rules | `(tactic| walk_at "lv") => `(tactic| (simp only [dCallX, dRaise, dExF, wlook_hit, dSeq, dAsg, dNew, dC, dgN, dFor, dList, dVar, dIf, dAnd, dOr, dNot, dTest, dOp, dUn, dCB, a1, a2, dCons, dNil, dNeg, dEq, dNe, dAdd, dSub, dI2, dI2C, dFdiv, dMod, dLt, dLe, dGt, dGe, dDrop, dBM, tyD, appD, dIfS, dNext, dRet, dFrz, dPar, dgTup, dgCons, dgNil, dgSub, dWhile, dBrk, dCnt, dRetN, dTupI, dStrI, dLc, dYes, wipeD, dTru, truD, dNoP, dChain, dPow, dShl, dShr, dBand, dBor, dBxor, dMul, dIn, dNotIn, inG, dgN, dAug, dIAdd, onInts, onBls, dSset, max2D, min2D, sumL, allL, anyL, maxL, minL, sortedL, dRng1, dRng2, dTup, dLst, dIs, dIsNot, D.isNon, intD, absD, seqOf, dSl, dNoP, dPart, dTimes, dAndV, dOrV, dNotV, dCall, dDisp, dPairs, dgSub, dSetI, dkey, keysOf, strD, addL, storeA0, storeA, storeB0, storeB, List.length_append, List.append_assoc, List.cons_append, List.nil_append, Int.reduceEq, Int.reduceLT, Int.reduceLE, Int.reduceNeg, Int.reduceAdd, Int.reduceSub, Int.reducePow,
  List.getElem?_cons_zero, List.getElem?_cons_succ, List.set_cons_zero, List.set_cons_succ, List.length_cons, List.length_nil, List.length_map, Nat.reduceAdd, Bool.not_eq_true, Bool.not_true, Bool.not_false, if_true, if_false, Bool.false_eq_true, decide_eq_true_eq, true_and, and_true, reduceCtorEq, ite_true, ite_false, Nat.zero_le, atI0, atI1, atI2, atI3, atI4, atI5, atI6]))
/-- the same through the store -/
def SameT : Nat → MM → D → D → Prop
  | 0, _, _, _ => False
  | n + 1, M, x, y => (x.pure = true ∧ y.pure = true ∧ y.small = true ∧ y.depth < n + 1 ∧ x.depth ≤ 60 ∧ D.same x y = true) ∨
    (∃ xs ys : List D, seqOf M x = some xs ∧ seqOf M y = some ys ∧ xs.length = ys.length ∧ ys.length ≤ 1000000 ∧ ∀ (i : Nat) (d e : D), xs[i]? = some d → ys[i]? = some e → SameT n M d e) ∨
    (∃ xs ys : List D, x = .tup xs ∧ y = .tup ys ∧ xs.length = ys.length ∧ ys.length ≤ 1000000 ∧ ∀ (i : Nat) (d e : D), xs[i]? = some d → ys[i]? = some e → SameT n M d e) ∨
    ∃ (a b : Nat) (kx ky : List (Key × D)), x = .loc a ∧ y = .loc b ∧ M[a]? = some (.dic kx) ∧ M[b]? = some (.dic ky) ∧ a ≠ b ∧ kx.length = ky.length ∧ ky.length ≤ 1000000 ∧
      ∀ kv ∈ ky, ∃ d, dlook kx kv.1 = some d ∧ dlook ky kv.1 = some kv.2 ∧ ∀ od ks, SameT n (M.set b (.fdic od ks ky)) d kv.2
def spSameS (n : Nat) : DSp := fun ds M Q => ∃ x y : D, ds = [x, y] ∧ ((x.pure = true ∧ y.pure = true ∧ y.small = true ∧ y.depth < n ∧ x.depth ≤ 60 ∧ Q (.bl (D.same x y)) M) ∨ (SameT n M x y ∧ Q (.bl true) M))
theorem same_items {r2 : Option D} {n : Nat} {xs ys : List D} {M : MM} {Q : DK} (hx : D.pureL xs = true) (hy : D.pureL ys = true) (hs : D.smallL ys = true) (hl : xs.length = ys.length) (hz : ys.length ≤ 1000000) (hd : D.depthL ys < n) (hd2 : D.depthL xs ≤ 60) (x y : D) (ex : ∀ i Q, dIx x i M Q = ixL xs i M Q) (ey : ∀ i Q, dIx y i M Q = ixL ys i M Q)
    (q : Q (.bl (D.sameL xs ys)) M) : dLcL noChk (dgN 4) dYes (dCall (spSameS n) (dCons (dOp dIx (dVar 0) (dVar 4)) (dCons (dOp dIx (dVar 1) (dVar 4)) dNil))) [some x, some y, none, r2, none] (fun zs M2 => onBls (.lst zs) M2 fun bs => Q (.bl (bs.all fun b => b)) M2) (rngD 0 ys.length) [] M := by
  refine lc_rng0 _ (fun i => .bl (D.same (xs.getD i .non) (ys.getD i .non))) trivial (fun i hi K k => ?_) (size_le hz) ?_
  · have hi1 : i < xs.length := by omega
    have m1 : xs.getD i .non ∈ xs := by rw [List.getD_eq_getElem?_getD, List.getElem?_eq_getElem hi1]; exact List.getElem_mem _
    have m2 : ys.getD i .non ∈ ys := by rw [List.getD_eq_getElem?_getD, List.getElem?_eq_getElem hi]; exact List.getElem_mem _
    show dIx x (.int (i : Int)) M _
    rw [ex]
    show ixL xs (.int (i : Int)) M _
    unfold ixL
    simp only [atI_getD hi1]
    show dIx y (.int (i : Int)) M _
    rw [ey]
    unfold ixL
    simp only [atI_getD hi]
    exact ⟨_, _, rfl, .inl ⟨pureL_mem hx _ m1, pureL_mem hy _ m2, smallL_mem hs _ m2, Nat.lt_of_le_of_lt (depthL_mem m2) hd, Nat.le_trans (depthL_mem m1) hd2, k⟩⟩
  · show onBls (.lst ((List.range ys.length).map fun i => D.bl (D.same (xs.getD i .non) (ys.getD i .non)))) M _
    rw [onBls_map, ← sameL_all xs ys hl]
    exact q
/-- the end of _law_same: lists, tuples -/
theorem same_tail {n : Nat} {xs ys : List D} {M : MM} {Q : DK} (x y : D) (hx : D.pureL xs = true) (hy : D.pureL ys = true) (hs : D.smallL ys = true) (hz : ys.length ≤ 1000000) (hd : D.depthL ys < n) (hd2 : D.depthL xs ≤ 60) (ex : ∀ i Q, dIx x i M Q = ixL xs i M Q) (ey : ∀ i Q, dIx y i M Q = ixL ys i M Q)
    (lx : ∀ Q, lenD x M Q = Q (.int (xs.length : Nat)) M) (ly : ∀ Q, lenD y M Q = Q (.int (ys.length : Nat)) M) (q : Q (.bl (D.sameL xs ys)) M) :
    dAndV (dVar 3) (dAndV (dOp dEq (dCB (a1 lenD) (dCons (dVar 0) dNil)) (dCB (a1 lenD) (dCons (dVar 1) dNil))) (dCB allL (dCons (dLc (dRng1 (dCons (dCB (a1 lenD) (dCons (dVar 1) dNil)) dNil)) (dgN 4) dYes (dCall (spSameS n) (dCons (dOp dIx (dVar 0) (dVar 4)) (dCons (dOp dIx (dVar 1) (dVar 4)) dNil))) [4]) dNil)))
      [some x, some y, none, some (.bl true), none] M Q := by
  refine andV_yes (fun Q q => q) ?_
  have le : ∀ Q : DK, Q (.bl (decide ((xs.length : Int) = (ys.length : Int)))) M → dOp dEq (dCB (a1 lenD) (dCons (dVar 0) dNil)) (dCB (a1 lenD) (dCons (dVar 1) dNil)) [some x, some y, none, some (.bl true), none] M Q := fun Q q => by
    simp only [dOp, dCB, a1, dCons, dVar, dNil, List.getElem?_cons_zero, List.getElem?_cons_succ, lx, ly, dEq]
    exact q
  by_cases hl : xs.length = ys.length
  · refine andV_yes (fun Q q => le Q (by rw [hl, decide_eq_true rfl]; exact q)) ?_
    simp only [dLc, dRng1, dCB, a1, dCons, dVar, dNil, List.getElem?_cons_zero, List.getElem?_cons_succ, ly]
    refine ⟨by omega, by omega, ?_⟩
    exact same_items hx hy hs hl hz hd hd2 x y ex ey q
  · refine andV_no (fun Q q => le Q (by rw [decide_eq_false (by omega)]; exact q)) ?_
    have e : D.sameL xs ys = false := by
      cases z : D.sameL xs ys with
      | false => rfl
      | true => exact absurd (congrArg List.length ((D.sameL_eq xs ys hy).mp z)) hl
    rw [e] at q
    exact q
theorem b_same {n : Nat} {x y : D} {M : MM} {Q : DK} (px : x.pure = true) (py : y.pure = true) (sy : y.small = true) (hd : y.depth < n + 1) (hd2 : x.depth ≤ 60) (q : Q (.bl (D.same x y)) M) : u__law_same (spSameS n) (ends M Q) [some x, some y, none, none, none] M := by
  have fin : ∀ b, D.same x y = b → Exit M Q (.bl b) M := fun b e => .all (e ▸ q)
  unfold u__law_same
  by_cases hn : y = .non
  · subst hn
    refine if_yes (tst_non rfl rfl) ?_
    walk_at "ev"
    exact fin _ (by cases x <;> simp [D.same, D.isNon])
  refine if_no (tst_non rfl (by cases y <;> first | rfl | exact absurd rfl hn)) ?_
  by_cases hb : y.isBl = true
  · obtain ⟨b, rfl⟩ : ∃ b, y = .bl b := by cases y <;> first | exact ⟨_, rfl⟩ | (simp [D.isBl] at hb)
    refine if_yes (tst_isi rfl fun M Q => by rw [isi_bl py]; rfl) ?_
    by_cases hx : x.isBl = true
    · refine andV_yes (val_isi rfl fun M Q => by rw [isi_bl px, hx]) (val_eq rfl rfl px py hd2 rfl _ (fin _ ?_))
      cases x <;> first | (simp [D.isBl] at hx; done) | simp [D.same, D.eqv]
    · refine andV_no (val_isi rfl fun M Q => by rw [isi_bl px, Bool.eq_false_iff.mpr hx]) (fin _ ?_)
      cases x <;> first | (simp [D.isBl] at hx; done) | simp [D.same]
  have hb' := Bool.eq_false_iff.mpr hb
  refine if_no (tst_isi rfl fun M Q => by rw [isi_bl py, hb']) ?_
  by_cases hi : y.isInt = true
  · obtain ⟨b, rfl⟩ : ∃ b, y = .int b := by cases y <;> first | exact ⟨_, rfl⟩ | (simp [D.isInt, D.isBl] at hi hb)
    refine if_yes (tst_isi rfl fun M Q => by rw [isi_int py]; rfl) ?_
    by_cases hx : x.isInt = true
    · refine andV_yes (val_isi rfl fun M Q => by rw [isi_int px, hx]) ?_
      by_cases hx2 : x.isBl = true
      · refine andV_no (fun Q q => ?_) (fin _ ?_)
        · show dCB (a2 isiD) _ _ _ _
          refine val_isi rfl (fun M Q => by rw [isi_bl px, hx2]) _ ?_
          exact q
        · cases x <;> first | (simp [D.isBl] at hx2; done) | simp [D.same]
      · refine andV_yes (fun Q q => ?_) (val_eq rfl rfl px py hd2 rfl _ (fin _ ?_))
        · show dCB (a2 isiD) _ _ _ _
          refine val_isi rfl (fun M Q => by rw [isi_bl px, Bool.eq_false_iff.mpr hx2]) _ ?_
          exact q
        · cases x <;> first | (simp [D.isInt, D.isBl] at hx hx2; done) | simp [D.same, D.eqv, Bool.beq_eq_decide_eq]
    · refine andV_no (val_isi rfl fun M Q => by rw [isi_int px, Bool.eq_false_iff.mpr hx]) (fin _ ?_)
      cases x <;> first | (simp [D.isInt] at hx; done) | simp [D.same]
  have hi' := Bool.eq_false_iff.mpr hi
  refine if_no (tst_isi rfl fun M Q => by rw [isi_int py, hi']) ?_
  by_cases hs : y.isStr = true
  · obtain ⟨b, rfl⟩ : ∃ b, y = .str b := by cases y <;> first | exact ⟨_, rfl⟩ | (simp [D.isStr] at hs)
    refine if_yes (tst_isi rfl fun M Q => by rw [isi_str py]; rfl) ?_
    by_cases hx : x.isStr = true
    · refine andV_yes (val_isi rfl fun M Q => by rw [isi_str px, hx]) (val_eq rfl rfl px py hd2 rfl _ (fin _ ?_))
      cases x <;> first | (simp [D.isStr] at hx; done) | simp [D.same, D.eqv]
    · refine andV_no (val_isi rfl fun M Q => by rw [isi_str px, Bool.eq_false_iff.mpr hx]) (fin _ ?_)
      cases x <;> first | (simp [D.isStr] at hx; done) | simp [D.same]
  have hs' := Bool.eq_false_iff.mpr hs
  refine if_no (tst_isi rfl fun M Q => by rw [isi_str py, hs']) (if_no (tst_isi rfl fun M Q => isi_dic py) ?_)
  refine seq_go fun N hN => ?_
  by_cases hl : y.isLst = true
  · obtain ⟨ys, rfl⟩ : ∃ b, y = .lst b := by cases y <;> first | exact ⟨_, rfl⟩ | (simp [D.isLst] at hl)
    refine if1 (tst_isi (b := true) rfl fun M Q => by rw [isi_lst py]; rfl) ?_
    refine asg (val_isi (b := x.isLst) rfl fun M Q => isi_lst px) ?_
    refine hN _ _ ?_
    clear hN N
    simp only [List.set_cons_succ, List.set_cons_zero]
    by_cases hx : x.isLst = true
    · obtain ⟨xs, rfl⟩ : ∃ b, x = .lst b := by cases x <;> first | exact ⟨_, rfl⟩ | (simp [D.isLst] at hx)
      simp only [D.pure, D.small, D.depth, Bool.and_eq_true, decide_eq_true_eq] at px py sy hd hd2
      show dAndV _ _ [some (.lst xs), some (.lst ys), none, some (.bl true), none] M _
      exact same_tail (.lst xs) (.lst ys) px py sy.2 sy.1 (by omega) (by omega) (fun _ _ => rfl) (fun _ _ => rfl) (fun _ => rfl) (fun _ => rfl) (fin _ (by simp [D.same]))
    · rw [Bool.eq_false_iff.mpr hx]
      show dAndV _ _ [some x, some (.lst ys), none, some (.bl false), none] M _
      refine andV_no (fun Q q => q) (fin _ ?_)
      cases x <;> first | (simp [D.isLst] at hx; done) | simp [D.same]
  · refine if0 (tst_isi (b := false) rfl fun M Q => by rw [isi_lst py, Bool.eq_false_iff.mpr hl]) ?_
    refine asg (val_isi (b := x.isTup) rfl fun M Q => isi_tup px) ?_
    refine hN _ _ ?_
    clear hN N
    simp only [List.set_cons_succ, List.set_cons_zero]
    obtain ⟨ys, rfl⟩ : ∃ b, y = .tup b := by cases y <;> first | exact ⟨_, rfl⟩ | (simp [D.isLst, D.isStr, D.isInt, D.isBl, D.pure] at hl hs hi hb hn py)
    by_cases hx : x.isTup = true
    · obtain ⟨xs, rfl⟩ : ∃ b, x = .tup b := by cases x <;> first | exact ⟨_, rfl⟩ | (simp [D.isTup] at hx)
      simp only [D.pure, D.small, D.depth, Bool.and_eq_true, decide_eq_true_eq] at px py sy hd hd2
      show dAndV _ _ [some (.tup xs), some (.tup ys), none, some (.bl true), none] M _
      exact same_tail (.tup xs) (.tup ys) px py sy.2 sy.1 (by omega) (by omega) (fun _ _ => rfl) (fun _ _ => rfl) (fun _ => rfl) (fun _ => rfl) (fin _ (by simp [D.same]))
    · rw [Bool.eq_false_iff.mpr hx]
      show dAndV _ _ [some x, some (.tup ys), none, some (.bl false), none] M _
      refine andV_no (fun Q q => q) (fin _ ?_)
      cases x <;> first | (simp [D.isTup] at hx; done) | simp [D.same]
theorem len__law_same {n : Nat} (ds : List D) (M : MM) (Q : DK) : spSameS n ds M Q → ds.length = 2 := fun ⟨_, _, e, _⟩ => e ▸ rfl
theorem none__law_same (ds : List D) (M : MM) (Q : DK) : ¬ spSameS 0 ds M Q := fun ⟨_, _, _, h⟩ => by
  rcases h with h | h
  · have := h.2.2.2.1
    omega
  · exact h.1.elim
theorem same_fitS {n m : Nat} {x : D} {M : MM} {Q : DK} (h : x.fit m) (hm : m < n) (hm2 : m ≤ 60) (q : Q (.bl true) M) : spSameS n [x, x] M Q := by
  have hd := h.d
  exact ⟨x, x, rfl, .inl ⟨h.p, h.p, h.s, by omega, by omega, by rw [D.same_rfl h.p]; exact q⟩⟩
theorem SameT.fit {n m : Nat} {x : D} {M : MM} (h : x.fit m) (hm : m < n) (hm2 : m ≤ 60) : SameT n M x x := by
  have hd := h.d
  cases n with
  | zero => omega
  | succ n => exact Or.inl ⟨h.p, h.p, h.s, by omega, by omega, D.same_rfl h.p⟩
theorem isi_ty {x : D} {M : MM} {a b : String} {r : Bool} (h : tyName M x = a) (e : isiT a b = some r) {i : Nat} {ds : DEnv} (hv : ds[i]? = some (some x)) : Val (dCB (a2 isiD) (dCons (dVar i) (dCons (dC (.ty b)) dNil))) ds M (.bl r) := fun Q q => by
  simp only [dCB, a2, dCons, dVar, dC, dNil, hv]
  unfold isiD
  simp only [h, e]
  exact q
/-- the items of two lists, two tuples -/
theorem same_itemsT {r2 : Option D} {n : Nat} {xs ys : List D} {M : MM} {Q : DK} (hl : xs.length = ys.length) (hz : ys.length ≤ 1000000) (x y : D) (ex : ∀ i Q, dIx x i M Q = ixL xs i M Q) (ey : ∀ i Q, dIx y i M Q = ixL ys i M Q) (h : ∀ (i : Nat) (d e : D), xs[i]? = some d → ys[i]? = some e → SameT n M d e)
    (q : Q (.bl true) M) : dLcL noChk (dgN 4) dYes (dCall (spSameS n) (dCons (dOp dIx (dVar 0) (dVar 4)) (dCons (dOp dIx (dVar 1) (dVar 4)) dNil))) [some x, some y, none, r2, none] (fun zs M2 => onBls (.lst zs) M2 fun bs => Q (.bl (bs.all fun b => b)) M2) (rngD 0 ys.length) [] M := by
  refine lc_rng0 _ (fun _ => .bl true) trivial (fun i hi K k => ?_) (size_le hz) ?_
  · have hi1 : i < xs.length := by omega
    show dIx x (.int (i : Int)) M _
    rw [ex]
    show ixL xs (.int (i : Int)) M _
    unfold ixL
    simp only [atI_getD hi1]
    show dIx y (.int (i : Int)) M _
    rw [ey]
    unfold ixL
    simp only [atI_getD hi]
    refine ⟨_, _, rfl, .inr ⟨h i _ _ ?_ ?_, k⟩⟩
    · rw [List.getD_eq_getElem?_getD, List.getElem?_eq_getElem hi1]
      rfl
    · rw [List.getD_eq_getElem?_getD, List.getElem?_eq_getElem hi]
      rfl
  · show onBls (.lst ((List.range ys.length).map fun i => D.bl true)) M _
    rw [onBls_map]
    have : (List.map (fun _ => true) (List.range ys.length)).all (fun b => b) = true := by simp
    rw [this]
    exact q
theorem same_tailT {n : Nat} {xs ys : List D} {M : MM} {Q : DK} (x y : D) (hl : xs.length = ys.length) (hz : ys.length ≤ 1000000) (ex : ∀ i Q, dIx x i M Q = ixL xs i M Q) (ey : ∀ i Q, dIx y i M Q = ixL ys i M Q)
    (lx : ∀ Q, lenD x M Q = Q (.int (xs.length : Nat)) M) (ly : ∀ Q, lenD y M Q = Q (.int (ys.length : Nat)) M) (h : ∀ (i : Nat) (d e : D), xs[i]? = some d → ys[i]? = some e → SameT n M d e) (q : Q (.bl true) M) :
    dAndV (dVar 3) (dAndV (dOp dEq (dCB (a1 lenD) (dCons (dVar 0) dNil)) (dCB (a1 lenD) (dCons (dVar 1) dNil))) (dCB allL (dCons (dLc (dRng1 (dCons (dCB (a1 lenD) (dCons (dVar 1) dNil)) dNil)) (dgN 4) dYes (dCall (spSameS n) (dCons (dOp dIx (dVar 0) (dVar 4)) (dCons (dOp dIx (dVar 1) (dVar 4)) dNil))) [4]) dNil)))
      [some x, some y, none, some (.bl true), none] M Q := by
  refine andV_yes (fun Q q => q) (andV_yes (fun Q q => ?_) ?_)
  · simp only [dOp, dCB, a1, dCons, dVar, dNil, List.getElem?_cons_zero, List.getElem?_cons_succ, lx, ly, dEq]
    show Q (.bl (decide ((xs.length : Int) = (ys.length : Int)))) M
    rw [hl, decide_eq_true rfl]
    exact q
  · simp only [dLc, dRng1, dCB, a1, dCons, dVar, dNil, List.getElem?_cons_zero, List.getElem?_cons_succ, ly]
    refine ⟨by omega, by omega, ?_⟩
    exact same_itemsT hl hz x y ex ey h q
theorem v_keys {ds : DEnv} {M : MM} {b i k : Nat} {ky : List (Key × D)} {g : Key × D → D} {ue : DE} {vs : List Nat} (hv : ds[i]? = some (some (.loc b))) (hb : M[b]? = some (.dic ky)) (hl : ky.length ≤ 1000000)
    (he : ∀ od ks, ∀ kv ∈ ky, Val ue ((wipeD ds vs).set k (some (keyD kv.1))) (M.set b (.fdic od ks ky)) (g kv)) : Val (dLockE i (dLc (dKeysI (dVar i)) (dgN k) dYes ue vs)) ds M (.lst (ky.map g)) := fun Q q => by
  have lb := (List.getElem?_eq_some_iff.mp hb).1
  have back : ∀ o, (M.set b o).set b (.dic ky) = M := fun o => by
    rw [List.set_set]
    obtain ⟨h1, h2⟩ := List.getElem?_eq_some_iff.mp hb
    rw [← h2, List.set_getElem_self]
  unfold dLockE
  simp only [hv, hb]
  intro od ks
  have gb : (M.set b (.fdic od ks ky))[b]? = some (.fdic od ks ky) := List.getElem?_set_self lb
  unfold dLc dKeysI
  simp only [dVar, hv, gb]
  refine lc_mapN (chk := fun M2 => M2[b]? = some (.fdic od ks ky)) k (fun kv => keyD kv.1) g ky gb (fun kv h => he od ks kv h) (size_le hl) ?_
  refine ⟨gb, ?_⟩
  rw [back]
  exact q
theorem seq_facts {M : MM} {x : D} {xs : List D} (h : seqOf M x = some xs) : tyName M x = "list" ∧ x.isNon = false ∧ (∀ Q, lenD x M Q = Q (.int (xs.length : Nat)) M) ∧ ∀ i Q, dIx x i M Q = ixL xs i M Q := by
  cases x with
  | lst ys =>
    cases h
    exact ⟨rfl, rfl, fun _ => rfl, fun _ _ => rfl⟩
  | loc n =>
    have hm := seq_loc h
    refine ⟨?_, rfl, fun Q => ?_, fun i Q => ?_⟩
    · unfold tyName
      simp only [hm]
    · unfold lenD
      simp only [hm]
    · unfold dIx
      simp only [hm]
  | _ => simp [seqOf] at h
theorem b_sameT {n : Nat} {x y : D} {M : MM} {Q : DK} (h : SameT (n + 1) M x y) (q : Q (.bl true) M) : u__law_same (spSameS n) (ends M Q) [some x, some y, none, none, none] M := by
  rcases h with ⟨h1, h2, h3, h4, h5, h6⟩ | ⟨xs, ys, hx, hy, hl, hz, hi⟩ | ⟨xs, ys, rfl, rfl, hl, hz, hi⟩ | ⟨a, b, kx, ky, rfl, rfl, ha, hb, hab, hl, hz, hk⟩
  · exact b_same h1 h2 h3 h4 h5 (by rw [h6]; exact q)
  · obtain ⟨tx, nx, lx, ix⟩ := seq_facts hx
    obtain ⟨ty, ny, ly, iy⟩ := seq_facts hy
    unfold u__law_same
    refine if_no (tst_non rfl ny) (if_no (t_val (isi_ty ty (by decide) rfl)) (if_no (t_val (isi_ty ty (by decide) rfl)) (if_no (t_val (isi_ty ty (by decide) rfl)) (if_no (t_val (isi_ty ty (by decide) rfl)) ?_))))
    refine seq_go fun N hN => if1 (t_val (isi_ty ty (by decide) rfl)) (asg (isi_ty tx (r := true) (by decide) rfl) (hN _ _ ?_))
    exact same_tailT x y hl hz ix iy lx ly hi (.all q)
  · unfold u__law_same
    refine if_no (tst_non rfl rfl) (if_no (t_val (isi_ty (M := M) (x := .tup ys) (a := "tuple") rfl (by decide) rfl)) (if_no (t_val (isi_ty (M := M) (x := .tup ys) (a := "tuple") rfl (by decide) rfl)) (if_no (t_val (isi_ty (M := M) (x := .tup ys) (a := "tuple") rfl (by decide) rfl)) (if_no (t_val (isi_ty (M := M) (x := .tup ys) (a := "tuple") rfl (by decide) rfl)) ?_))))
    refine seq_go fun N hN => if0 (t_val (isi_ty (M := M) (x := .tup ys) (a := "tuple") rfl (by decide) rfl)) (asg (isi_ty (M := M) (x := .tup xs) (a := "tuple") (r := true) rfl (by decide) rfl) (hN _ _ ?_))
    exact same_tailT (.tup xs) (.tup ys) hl hz (fun _ _ => rfl) (fun _ _ => rfl) (fun _ => rfl) (fun _ => rfl) hi (.all q)
  · have ta : tyName M (.loc a) = "dict" := by
      unfold tyName
      simp only [ha]
    have tb : tyName M (.loc b) = "dict" := by
      unfold tyName
      simp only [hb]
    have lb := (List.getElem?_eq_some_iff.mp hb).1
    unfold u__law_same
    refine if_no (tst_non rfl rfl) (if_no (t_val (isi_ty tb (by decide) rfl)) (if_no (t_val (isi_ty tb (by decide) rfl)) (if_no (t_val (isi_ty tb (by decide) rfl)) ?_)))
    refine if_yes (t_val (isi_ty tb (by decide) rfl)) ?_
    have v0 : Val (dVar 0) [some (.loc a), some (.loc b), none, none, none] M (.loc a) := v_var rfl
    have allT : ∀ (g : Key × D → D), (∀ kv, g kv = .bl true) → ∀ {e : DE}, Val e [some (.loc a), some (.loc b), none, none, none] M (.lst (ky.map g)) → Val (dCB allL (dCons e dNil)) [some (.loc a), some (.loc b), none, none, none] M (.bl true) := fun g hg e h => by
      have e1 : ky.map g = (ky.map fun _ => true).map D.bl := by
        rw [List.map_map]
        exact List.map_congr_left fun kv _ => hg kv
      rw [e1] at h
      have := v_all h
      have e2 : ((ky.map fun _ => true).all fun b => b) = true := by simp
      rw [e2] at this
      exact this
    have ln : Val (dOp dNe (dCB (a1 lenD) (dCons (dVar 0) dNil)) (dCB (a1 lenD) (dCons (dVar 1) dNil))) [some (.loc a), some (.loc b), none, none, none] M (.bl false) := fun Q q => by
      walk_at "ev"
      simp only [ha, hb]
      show Q (.bl (!decide ((kx.length : Int) = (ky.length : Int)))) M
      rw [hl, decide_eq_true rfl]
      exact q
    have ga : ∀ od ks, (M.set b (.fdic od ks ky))[a]? = some (.dic kx) := fun od ks => by
      rw [List.getElem?_set_ne (fun e => hab e.symm)]
      exact ha
    have gb : ∀ od ks, (M.set b (.fdic od ks ky))[b]? = some (.fdic od ks ky) := fun od ks => List.getElem?_set_self lb
    have k1 := allT (fun _ => .bl true) (fun _ => rfl) (v_keys (i := 1) (k := 2) (vs := [2]) (g := fun _ => D.bl true) (ds := [some (.loc a), some (.loc b), none, none, none]) (ue := dOp dIn (dVar 2) (dVar 0)) rfl hb hz fun od ks kv hkv => by
      obtain ⟨d, e1, e2, e3⟩ := hk kv hkv
      refine v_op (x := keyD kv.1) (y := .loc a) (v_var rfl) (v_var rfl) fun K k => ?_
      show inG false (keyD kv.1) (.loc a) _ K
      unfold inG
      have er : D.res (M.set b (.fdic od ks ky)) (.loc a) = .loc a := by
        unfold D.res
        simp only [ga]
      rw [er]
      simp only [ga, keyD_key, e1]
      exact k)
    refine seq_go fun N hN => if0 (t_or (a := false) (t_notB (t_val (isi_ty ta (r := true) (by decide) rfl))) fun _ => t_or (a := false) (t_val ln) fun _ => t_notB (t_val k1)) (hN _ _ (s_ret' ?_))
    refine allT (fun _ => .bl true) (fun _ => rfl) (v_keys (i := 1) (k := 2) (vs := [2]) (g := fun _ => D.bl true) rfl hb hz fun od ks kv hkv => ?_) _ (.all q)
    obtain ⟨d, e1, e2, e3⟩ := hk kv hkv
    refine v_call2 (x := d) (y := kv.2) (v_op (x := .loc a) (y := keyD kv.1) (v_var rfl) (v_var rfl) fun K k => ?_) (v_op (x := .loc b) (y := keyD kv.1) (v_var rfl) (v_var rfl) fun K k => ?_) fun K k => ⟨d, kv.2, rfl, .inr ⟨e3 od ks, k⟩⟩
    · unfold dIx
      simp only [ga, keyD_key, e1]
      exact k
    · unfold dIx
      simp only [gb, keyD_key, e2]
      exact k
theorem use__law_same {n : Nat} (ds : List D) (M : MM) (Q : DK) : spSameS (n + 1) ds M Q → u__law_same (spSameS n) (ends M Q) (st 5 ds) M := fun ⟨x, y, e, h⟩ => by
  subst e
  rcases h with ⟨h1, h2, h3, h4, h5, q⟩ | ⟨h, q⟩
  · exact b_same h1 h2 h3 h4 h5 q
  · exact b_sameT h q
end PS

/-! guarded messages: the check -/
namespace PQ
open PySem L2 AX
/-! the check by x^8 + x^4 + x^3 + x^2 + 1 -/
@[irreducible] def sb (x : Nat) : Nat := if x < 128 then x * 2 else (x * 2 ^^^ 29) % 256
@[irreducible] def s8 (x : Nat) : Nat := sb (sb (sb (sb (sb (sb (sb (sb x)))))))
theorem st_lt {x : Nat} (h : x < 256) : sb x < 256 := by
  unfold sb
  split
  · omega
  · exact Nat.mod_lt _ (by decide)
theorem s8_lt {x : Nat} (h : x < 256) : s8 x < 256 := by
  unfold s8
  exact st_lt (st_lt (st_lt (st_lt (st_lt (st_lt (st_lt (st_lt h)))))))
theorem xor_lt {x y : Nat} (h : x < 256) (h2 : y < 256) : x ^^^ y < 256 := Nat.xor_lt_two_pow (n := 8) h h2
def crcS (f : Nat) (l : List Nat) : Nat := l.foldl (fun f o => s8 (f ^^^ o)) f
def crc (l : List Nat) : Nat := crcS 255 l ^^^ 255
theorem crcS_lt : ∀ {l : List Nat} {f : Nat}, f < 256 → (∀ o ∈ l, o < 256) → crcS f l < 256
  | [], f, h, _ => h
  | o :: l, f, h, hl => crcS_lt (l := l) (s8_lt (xor_lt h (hl o (by simp)))) fun x hx => hl x (List.mem_cons_of_mem _ hx)
theorem all_to {p : Nat → Bool} {n : Nat} (h : (List.range n).all p = true) {x : Nat} (hx : x < n) : p x = true := List.all_eq_true.mp h x (List.mem_range.mpr hx)
theorem st_lin : ((List.range 256).all fun x => (List.range 256).all fun y => sb (x ^^^ y) == (sb x ^^^ sb y)) = true := by decide +kernel
theorem st_x {x y : Nat} (h : x < 256) (h2 : y < 256) : sb (x ^^^ y) = sb x ^^^ sb y := by
  have := all_to (all_to st_lin h) h2
  exact beq_iff_eq.mp this
theorem s8_x {x y : Nat} (h : x < 256) (h2 : y < 256) : s8 (x ^^^ y) = s8 x ^^^ s8 y := by
  unfold s8
  have a1 := st_lt h; have b1 := st_lt h2
  have a2 := st_lt a1; have b2 := st_lt b1
  have a3 := st_lt a2; have b3 := st_lt b2
  have a4 := st_lt a3; have b4 := st_lt b3
  have a5 := st_lt a4; have b5 := st_lt b4
  have a6 := st_lt a5; have b6 := st_lt b5
  have a7 := st_lt a6; have b7 := st_lt b6
  rw [st_x h h2, st_x a1 b1, st_x a2 b2, st_x a3 b3, st_x a4 b4, st_x a5 b5, st_x a6 b6, st_x a7 b7]
def sN : Nat → Nat → Nat
  | 0, x => x
  | n + 1, x => sN n (s8 x)
theorem sN_lt : ∀ {n x : Nat}, x < 256 → sN n x < 256
  | 0, x, h => h
  | n + 1, x, h => sN_lt (n := n) (s8_lt h)
theorem crcS_x : ∀ {l : List Nat} {f e : Nat}, f < 256 → e < 256 → (∀ o ∈ l, o < 256) → crcS (f ^^^ e) l = crcS f l ^^^ sN l.length e
  | [], f, e, _, _, _ => rfl
  | o :: l, f, e, h, h2, hl => by
    have ho := hl o (by simp)
    show crcS (s8 (f ^^^ e ^^^ o)) l = crcS (s8 (f ^^^ o)) l ^^^ sN l.length (s8 e)
    rw [show f ^^^ e ^^^ o = (f ^^^ o) ^^^ e by rw [Nat.xor_assoc, Nat.xor_comm e, ← Nat.xor_assoc], s8_x (xor_lt h ho) h2]
    exact crcS_x (s8_lt (xor_lt h ho)) (s8_lt h2) fun x hx => hl x (List.mem_cons_of_mem _ hx)
theorem crcS_app (l m : List Nat) (f : Nat) : crcS f (l ++ m) = crcS (crcS f l) m := List.foldl_append
theorem s8_inj0 : ((List.range 256).all fun x => s8 x != 0 || x == 0) = true := by decide +kernel
theorem s8_inj {x : Nat} (h : x < 256) (hz : s8 x = 0) : x = 0 := by
  have := all_to s8_inj0 h
  simpa [hz] using this
theorem sN_zero : ∀ {n x : Nat}, x < 256 → sN n x = 0 → x = 0
  | 0, x, _, h => h
  | n + 1, x, hx, h => s8_inj hx (sN_zero (n := n) (s8_lt hx) h)
/-- a message, check first, with two octets of the key behind it: 0 if the check is right -/
def syn (m : List Nat) (k : List Nat) : Nat := m.headD 0 ^^^ crc (m.tail ++ k)
def flip (m : List Nat) (i e : Nat) : List Nat := m.set i (m.getD i 0 ^^^ e)
def wgt (len : Nat) : Nat → Nat → Nat
  | 0, e => e
  | i + 1, e => sN (len - i) e
theorem syn_flip {m k : List Nat} {i e : Nat} (hi : i < m.length) (he : e < 256) (hm : ∀ o ∈ m, o < 256) (hk : ∀ o ∈ k, o < 256) : syn (flip m i e) k = syn m k ^^^ wgt (m.length + k.length - 1) i e := by
  cases m with
  | nil => simp at hi
  | cons c m =>
    cases i with
    | zero =>
      show (c ^^^ e) ^^^ crc (m ++ k) = c ^^^ crc (m ++ k) ^^^ e
      rw [Nat.xor_assoc, Nat.xor_comm e, ← Nat.xor_assoc]
    | succ i =>
      rw [List.length_cons] at hi ⊢
      have hi : i < m.length := by omega
      have hmm : ∀ o ∈ m, o < 256 := fun o ho => hm o (List.mem_cons_of_mem _ ho)
      have sp : m = m.take i ++ (m[i] :: m.drop (i + 1)) := by rw [List.getElem_cons_drop, List.take_append_drop]
      have sb : m.set i (m[i] ^^^ e) = m.take i ++ ((m[i] ^^^ e) :: m.drop (i + 1)) := by
        rw [List.set_eq_take_append_cons_drop, if_pos hi]
      show c ^^^ crc ((m.set i ((m.getD i 0) ^^^ e)) ++ k) = c ^^^ crc (m ++ k) ^^^ sN (m.length + 1 + k.length - 1 - i) e
      rw [show m.getD i 0 = m[i] by simp [List.getD_eq_getElem?_getD, hi], sb]
      have hmi := hmm m[i] (List.getElem_mem hi)
      have h0 : ∀ o ∈ m.take i, o < 256 := fun o ho => hmm o (List.mem_of_mem_take ho)
      have h1 : ∀ o ∈ m.drop (i + 1) ++ k, o < 256 := fun o ho => by
        rcases List.mem_append.mp ho with z | z
        · exact hmm o (List.mem_of_mem_drop z)
        · exact hk o z
      have pl := crcS_lt (l := m.take i) (f := 255) (by decide) h0
      have key : crc ((m.take i ++ ((m[i] ^^^ e) :: m.drop (i + 1))) ++ k) = crc (m ++ k) ^^^ sN (m.length + 1 + k.length - 1 - i) e := by
        have e2 : m ++ k = m.take i ++ (m[i] :: (m.drop (i + 1) ++ k)) := by
          have : m ++ k = (m.take i ++ (m[i] :: m.drop (i + 1))) ++ k := congrArg (· ++ k) sp
          rw [this, List.append_assoc, List.cons_append]
        rw [e2]
        unfold crc
        rw [List.append_assoc, List.cons_append, crcS_app, crcS_app]
        show crcS (s8 (crcS 255 (m.take i) ^^^ (m[i] ^^^ e))) _ ^^^ 255 = crcS (s8 (crcS 255 (m.take i) ^^^ m[i])) _ ^^^ 255 ^^^ _
        rw [← Nat.xor_assoc, s8_x (xor_lt pl hmi) he, crcS_x (s8_lt (xor_lt pl hmi)) (s8_lt he) h1]
        have el : m.length + 1 + k.length - 1 - i = (m.drop (i + 1) ++ k).length + 1 := by
          rw [List.length_append, List.length_drop]
          omega
        rw [el]
        show _ ^^^ sN _ (s8 e) ^^^ 255 = _ ^^^ 255 ^^^ sN _ (s8 e)
        rw [Nat.xor_assoc, Nat.xor_comm (sN _ _), ← Nat.xor_assoc]
      rw [key, Nat.xor_assoc]
theorem wgt_lt {len i e : Nat} (h : e < 256) : wgt len i e < 256 := by
  cases i with
  | zero => exact h
  | succ i => exact sN_lt h
theorem wgt_zero {len i e : Nat} (h : e < 256) (hz : wgt len i e = 0) : e = 0 := by
  cases i with
  | zero => exact hz
  | succ i => exact sN_zero h hz
/-- two single bits at unlike octets are never the same -/
theorem bits_far0 : ((List.range 11).all fun n => (List.range 11).all fun m => n == m || (List.range 8).all fun a => (List.range 8).all fun b => sN n (2 ^ a) != sN m (2 ^ b)) = true := by decide +kernel
theorem bits_far {n m a b : Nat} (hn : n < 11) (hm : m < 11) (h : n ≠ m) (ha : a < 8) (hb : b < 8) : sN n (2 ^ a) ≠ sN m (2 ^ b) := by
  have := all_to (all_to bits_far0 hn) hm
  rw [Bool.or_eq_true] at this
  rcases this with z | z
  · exact absurd (beq_iff_eq.mp z) h
  · exact bne_iff_ne.mp (all_to (all_to z ha) hb)
theorem s_int : ((List.range 256).all fun x => (decide (Builtin.bitAnd (x : Int) 128 = 0) == decide (x < 128)) && (decide (x < 128) || decide (Builtin.bitAnd (Builtin.bitXor ((x : Int) * 2 ^ (1 : Int).toNat) 29) 255 = ((sb x : Nat) : Int))) && (decide (128 ≤ x) || decide ((x : Int) * 2 ^ (1 : Int).toNat = ((sb x : Nat) : Int)))) = true := by decide +kernel
end PQ

/-! guarded messages: the check -/
namespace PQ
open PySem L2 AX PB PF
def u_check_of : DS :=
  (dSeq (dAsg (dC (.int 255)) (dgN 1))
  (dSeq (dFor (dList (dVar 0)) (dgN 2)
  (dSeq (dAug 1 (dVar 2) dBxor)
  (dFor (dRng1 (dCons (dC (.int 8)) dNil)) (dgN 3)
  (dAsg (dIf (dTru (dOp dBand (dVar 1) (dC (.int 128)))) (dOp dBand (dOp dBxor (dOp dShl (dVar 1) (dC (.int 1))) (dC (.int 29))) (dC (.int 255))) (dOp dShl (dVar 1) (dC (.int 1)))) (dgN 1)))))
  (dRet (dOp dBxor (dVar 1) (dC (.int 255))))))
def u_guarded (sp_is_octets : DSp) (sp_is_number : DSp) (sp_check_of : DSp) (wd : DWX) : DS :=
  (dSeq (dIfS (dNot (dTest (dCall sp_is_octets (dCons (dVar 0) (dCons (dC (.int 6)) dNil)))))
  (dRaise "Wrong" wd (dC (.str "data"))) dNext)
  (dSeq (dIfS (dNot (dTest (dCall sp_is_number (dCons (dVar 1) (dCons (dC (.int 0)) (dCons (dC (.int 14)) dNil))))))
  (dRaise "Wrong" wd (dC (.str "counter"))) dNext)
  (dSeq (dIfS (dNot (dTest (dCall sp_is_number (dCons (dVar 2) (dCons (dC (.int 0)) (dCons (dC (.int 65535)) dNil))))))
  (dRaise "Wrong" wd (dC (.str "key"))) dNext)
  (dRet (dOp dAdd (dLst (dCons (dCall sp_check_of (dCons (dOp dAdd (dOp dAdd (dLst (dCons (dVar 1) dNil)) (dVar 0)) (dLst (dCons (dOp dShr (dVar 2) (dC (.int 8))) (dCons (dOp dBand (dVar 2) (dC (.int 255))) dNil)))) dNil)) (dCons (dVar 1) dNil))) (dVar 0))))))
def u__law_check : DS :=
  (dSeq (dAsg (dNew dNil) (dgN 1))
  (dSeq (dFor (dRng1 (dCons (dC (.int 256)) dNil)) (dgN 2)
  (dSeq (dAsg (dOp dTimes (dVar 2) (dC (.int 256))) (dgN 3))
  (dSeq (dFor (dRng3 (dCons (dC (.int 7)) (dCons (dUn dNeg (dC (.int 1))) (dCons (dUn dNeg (dC (.int 1))) dNil)))) (dgN 4)
  (dIfS (dTest (dOp dEq (dOp dMod (dCB (a1 intD) (dCons (dOp dFdiv (dVar 3) (dOp dShl (dC (.int 256)) (dVar 4))) dNil)) (dC (.int 2))) (dC (.int 1))))
  (dAsg (dOp dBxor (dVar 3) (dOp dShl (dC (.int 285)) (dVar 4))) (dgN 3)) dNext))
  (dDrop (dBM "list" appD (dVar 1) (dCons (dVar 3) dNil))))))
  (dSeq (dAsg (dC (.int 255)) (dgN 5))
  (dSeq (dFor (dList (dVar 0)) (dgN 6)
  (dAsg (dOp dIx (dVar 1) (dOp dBxor (dVar 5) (dVar 6))) (dgN 5)))
  (dRet (dOp dSub (dC (.int 255)) (dVar 5)))))))
def u__law_guarded (sp__law_check : DSp) : DS :=
  (dRet (dOp dAdd (dLst (dCons (dCall sp__law_check (dCons (dOp dAdd (dOp dAdd (dLst (dCons (dVar 1) dNil)) (dVar 0)) (dLst (dCons (dOp dFdiv (dVar 2) (dC (.int 256))) (dCons (dOp dMod (dCB (a1 intD) (dCons (dVar 2) dNil)) (dC (.int 256))) dNil)))) dNil)) (dCons (dVar 1) dNil))) (dVar 0)))
local macro_rules | `(tactic| walk_at "ev") => `(tactic| (simp only [dCallX, dFld, dgFld, dMeth, dMethX, dMake, dMakeX, insOf, putD_nil, putD_zero, putD_succ, dRaise, dExF, wlook_hit, dSeq, dAsg, dNew, dC, dgN, dFor, dList, dVar, dIf, dAnd, dOr, dNot, dTest, dOp, dUn, dCB, a1, a2, lenD, dCons, dNil, dNeg, dEq, dNe, dIx, ixL, dAdd, dSub, dI2, dI2C, dFdiv, dMod, dLt, dLe, dGt, dGe, dDrop, dBM, tyD, appD, dIfS, dNext, dRet, dFrz, dPar, dgTup, dgCons, dgNil, dgSub, dWhile, dBrk, dCnt, dRetN, dTupI, dStrI, dLc, dYes, wipeD, dTru, truD, dNoP, dChain, dPow, dShl, dShr, dBand, dBor, dBxor, dMul, dIn, dNotIn, inG, dgN, dAug, dIAdd, onInts, onBls, dSset, max2D, min2D, sumL, allL, anyL, maxL, minL, sortedL, listN, dRng1, dRng2, dTup, dLst, dIs, dIsNot, D.isNon, intD, absD, listD, seqOf, dSl, dNoP, dPart, slD, dTimes, dAndV, dOrV, dNotV, dCall, dDisp, dPairs, dgSub, dSetI, dkey, keysOf, strD, addL, storeA0, storeA, storeB0, storeB, List.length_append, List.append_assoc, List.cons_append, List.nil_append, Int.reduceEq, Int.reduceLT, Int.reduceLE, Int.reduceNeg, Int.reduceAdd, Int.reduceSub, Int.reducePow,
  List.getElem?_cons_zero, List.getElem?_cons_succ, List.set_cons_zero, List.set_cons_succ, List.length_cons, List.length_nil, List.length_map, Nat.reduceAdd, Bool.not_eq_true, Bool.not_true, Bool.not_false, if_true, if_false, Bool.false_eq_true, decide_eq_true_eq, true_and, and_true, reduceCtorEq, ite_true, ite_false, Nat.zero_le, atI0, atI1, atI2, atI3, atI4, atI5, atI6]))
local macro_rules | `(tactic| walk_at "sd") => `(tactic| first | assumption | decide | omega | (exact size_ok (by omega)) | (exact size_le (by omega)) | (unfold TimesOk; omega) | (rw [sizeLine_eq]; decide))
local macro_rules | `(tactic| walk_at "go") => `(tactic| repeat ((with_reducible refine And.intro ?_ ?_); (· walk_at "sd")))
local macro_rules | `(tactic| walk_at "ft") => `(tactic| repeat (first | assumption | exact fit_int _ _ | exact fit_str _ _ | exact fit_bl _ _ | exact fit_non _ | exact fits_nil | refine fits_cons ?_ ?_ | exact fit_ints _ (by omega) _ | refine fit_lst (by simp only [List.length_cons, List.length_nil]; omega) ?_ | refine fit_tup (by simp only [List.length_cons, List.length_nil]; omega) ?_))
local macro_rules | `(tactic| walk_at "fo") => `(tactic| repeat ((with_reducible refine And.intro ?_ ?_); (· first | exact ⟨rfl, rfl⟩ | exact ⟨rfl, rfl, Nat.le_of_ble_eq_true rfl, Nat.le_of_ble_eq_true rfl⟩ | exact size_le (by decide))))
local macro_rules | `(tactic| walk_at "lv") => `(tactic| (simp only [dCallX, dFld, dgFld, dMeth, dMethX, dMake, dMakeX, insOf, putD_nil, putD_zero, putD_succ, dRaise, dExF, wlook_hit, dSeq, dAsg, dNew, dC, dgN, dFor, dList, dVar, dIf, dAnd, dOr, dNot, dTest, dOp, dUn, dCB, a1, a2, dCons, dNil, dNeg, dEq, dNe, dAdd, dSub, dI2, dI2C, dFdiv, dMod, dLt, dLe, dGt, dGe, dDrop, dBM, tyD, appD, dIfS, dNext, dRet, dFrz, dPar, dgTup, dgCons, dgNil, dgSub, dWhile, dBrk, dCnt, dRetN, dTupI, dStrI, dLc, dYes, wipeD, dTru, truD, dNoP, dChain, dPow, dShl, dShr, dBand, dBor, dBxor, dMul, dIn, dNotIn, inG, dgN, dAug, dIAdd, onInts, onBls, dSset, max2D, min2D, sumL, allL, anyL, maxL, minL, sortedL, dRng1, dRng2, dTup, dLst, dIs, dIsNot, D.isNon, intD, absD, seqOf, dSl, dNoP, dPart, dTimes, dAndV, dOrV, dNotV, dCall, dDisp, dPairs, dgSub, dSetI, dkey, keysOf, strD, addL, storeA0, storeA, storeB0, storeB, List.length_append, List.append_assoc, List.cons_append, List.nil_append, Int.reduceEq, Int.reduceLT, Int.reduceLE, Int.reduceNeg, Int.reduceAdd, Int.reduceSub, Int.reducePow,
  List.getElem?_cons_zero, List.getElem?_cons_succ, List.set_cons_zero, List.set_cons_succ, List.length_cons, List.length_nil, List.length_map, Nat.reduceAdd, Bool.not_eq_true, Bool.not_true, Bool.not_false, if_true, if_false, Bool.false_eq_true, decide_eq_true_eq, true_and, and_true, reduceCtorEq, ite_true, ite_false, Nat.zero_le, atI0, atI1, atI2, atI3, atI4, atI5, atI6]))
/-! ### check_of -/
theorem xor_int (a b : Nat) : Builtin.bitXor (a : Int) (b : Int) = ((a ^^^ b : Nat) : Int) := Bits.bitXor_pp (by omega) (by omega)
def octs (l : List Nat) : Prop := ∀ o ∈ l, o < 256
def sp_check_of : DSp := fun ds M Q => ∃ (x : D) (l : List Nat), ds = [x] ∧ seqOf M x = some (l.map nI) ∧ octs l ∧ Q (nI (crc l)) M
theorem len_check_of (ds : List D) (M : MM) (Q : DK) : sp_check_of ds M Q → ds.length = 1 := fun ⟨_, _, e, _⟩ => e ▸ rfl
theorem crc_lt {l : List Nat} (h : octs l) : crc l < 256 := by
  unfold crc
  exact xor_lt (crcS_lt (by decide) h) (by decide)
def sI : Nat → Nat → Nat
  | 0, x => x
  | n + 1, x => sb (sI n x)
theorem sI_lt {x : Nat} (h : x < 256) : ∀ n, sI n x < 256
  | 0 => h
  | n + 1 => st_lt (sI_lt h n)
theorem sI_8 (x : Nat) : sI 8 x = s8 x := by
  unfold s8
  rfl
/-- a walk over a list, here or in the store -/
theorem for_seq {e : DE} {gt : DG} {b : DS} {DD : DEnds} {ds : DEnv} {M : MM} {x : D} {xs : List D} (h : Val e ds M x) (hx : seqOf M x = some xs) (k : ∀ chk : MM → Prop, chk M → dLoop chk gt b DD xs ds M) : dFor (dList e) gt b DD ds M := h _ (by
  cases x with
  | lst ys => cases hx; exact k _ trivial
  | loc n =>
    have hm := seq_loc hx
    simp only [hm]
    exact k _ hm
  | _ => simp [seqOf] at hx)
theorem crcS_snoc (f : Nat) (l : List Nat) (o : Nat) : crcS f (l ++ [o]) = s8 (crcS f l ^^^ o) := by
  rw [crcS_app]
  rfl
theorem use_check_of (ds : List D) (M : MM) (Q : DK) : sp_check_of ds M Q → u_check_of (ends M Q) (st 4 ds) M := fun ⟨x, l, e, hx, ho, q⟩ => by
  subst e
  show u_check_of _ [some x, none, none, none] M
  unfold u_check_of
  refine seq_go fun N hN => asg v_c (hN _ _ ?_)
  clear hN N
  refine seq_go fun N hN => for_seq (v_var rfl) hx fun chk hc => ?_
  refine loop_inv nI l (fun pre ds M' => ∃ (y2 y3 : Option D), ds = [some x, some (nI (crcS 255 pre)), y2, y3] ∧ M' = M) ⟨_, _, rfl, rfl⟩ ?_ ?_
  · rintro pre o post e ds M' ⟨y2, y3, rfl, rfl⟩ K hK
    refine ⟨hc, ?_⟩
    have o256 : o < 256 := ho o (by rw [e]; simp)
    have f256 : crcS 255 pre < 256 := crcS_lt (by decide) fun y hy => ho y (by rw [e]; simp [hy])
    refine seq_go fun N2 hN2 => ?_
    walk_at "ev"
    rw [show Builtin.bitXor (nI (crcS 255 pre) |> fun _ => (crcS 255 pre : Int)) (o : Int) = _ from xor_int _ _]
    refine hN2 _ _ ?_
    clear hN2 N2
    have g256 := xor_lt f256 o256
    refine for_rng (n := 8) v_c (by decide) ?_
    refine rng0_inv 8 (fun i ds M2 => ∃ (y3 : Option D), ds = [some x, some (nI (sI i (crcS 255 pre ^^^ o))), some (nI o), y3] ∧ M2 = M') ⟨_, rfl, rfl⟩ ?_ ?_
    · rintro i hi ds M2 ⟨y3, rfl, rfl⟩ K2 hK2
      refine ⟨trivial, ?_⟩
      have s256 := sI_lt g256 i
      have fct := all_to s_int s256
      generalize hs : sI i (crcS 255 pre ^^^ o) = s at *
      simp only [Bool.and_eq_true, beq_iff_eq, Bool.or_eq_true, decide_eq_true_eq] at fct
      refine asg (d := nI (sb s)) (fun Q q => ?_) (hK2 _ _ ⟨_, by show _ = [some x, some (nI (sb (sI i _))), _, _]; rw [hs]; rfl, rfl⟩)
      walk_at "ev"
      by_cases c : s < 128
      · have h0 : Builtin.bitAnd (s : Int) 128 = 0 := by
          have := fct.1.1
          rw [decide_eq_true c] at this
          exact of_decide_eq_true this
        have h1 : (s : Int) * 2 ^ (1 : Int).toNat = ((sb s : Nat) : Int) := by
          rcases fct.2 with z | z
          · omega
          · exact z
        rw [h0]
        refine (show (if ((0 : Int) != 0) = true then _ else _) from ?_)
        rw [if_neg (by decide)]
        refine ⟨⟨by omega, by omega, by omega⟩, ?_⟩
        rw [h1]
        exact q
      · have h0 : Builtin.bitAnd (s : Int) 128 ≠ 0 := by
          have := fct.1.1
          rw [decide_eq_false c] at this
          exact of_decide_eq_false this
        have h1 : Builtin.bitAnd (Builtin.bitXor ((s : Int) * 2 ^ (1 : Int).toNat) 29) 255 = ((sb s : Nat) : Int) := by
          rcases fct.1.2 with z | z
          · exact absurd z c
          · exact z
        refine (show (if (Builtin.bitAnd (s : Int) 128 != 0) = true then _ else _) from ?_)
        rw [if_pos (bne_iff_ne.mpr h0)]
        refine ⟨⟨by omega, by omega, by omega⟩, ?_⟩
        rw [h1]
        exact q
    · rintro ds M2 ⟨y3, rfl, rfl⟩
      refine ⟨trivial, hK _ _ ⟨some (nI o), y3, ?_, rfl⟩⟩
      rw [crcS_snoc, sI_8]
  · rintro ds M' ⟨y2, y3, rfl, rfl⟩
    refine ⟨hc, hN _ _ ?_⟩
    walk_at "ev"
    rw [show Builtin.bitXor ((crcS 255 l : Nat) : Int) 255 = _ from xor_int _ 255]
    exact .all q
/-! ### guarded -/
def gF (d : List Nat) (c k : Nat) : List Nat := crc ([c] ++ d ++ [k / 256, k % 256]) :: c :: d
theorem fit_oct {d : List Nat} (h : d.length ≤ 1000000) : (D.lst (d.map nI)).fit 1 := fit_nI d h
theorem isOct_nI {d : List Nat} {m : Int} (hl : (d.length : Int) ≤ m) (h : octs d) : isOct (.lst (d.map nI)) m = true := by
  unfold isOct
  rw [Bool.and_eq_true, decide_eq_true_eq, List.length_map, List.all_map, List.all_eq_true]
  refine ⟨hl, fun o ho => ?_⟩
  have := h o ho
  show isNum (nI o) 0 255 = true
  unfold isNum
  simp
  omega
theorem isNum_nI {c : Nat} {m : Int} (h : (c : Int) ≤ m) : isNum (nI c) 0 m = true := by
  unfold isNum
  simp
  omega
theorem octs_body {d : List Nat} {c k : Nat} (hd : octs d) (hc : c ≤ 14) (hk : k ≤ 65535) : octs ([c] ++ d ++ [k / 256, k % 256]) := fun o ho => by
  simp only [List.mem_append, List.mem_cons, List.not_mem_nil, or_false] at ho
  rcases ho with (rfl | z) | rfl | rfl
  · omega
  · exact hd o z
  · omega
  · omega
def sp_guarded : DSpX := fun ds M Q E => ∃ (x y z : D), ds = [x, y, z] ∧ x.pure = true ∧ y.pure = true ∧ z.pure = true ∧
  ((isOct x 6 = false ∧ E "Wrong" (.str "data") M) ∨ (isOct x 6 = true ∧ isNum y 0 14 = false ∧ E "Wrong" (.str "counter") M) ∨ (isOct x 6 = true ∧ isNum y 0 14 = true ∧ isNum z 0 65535 = false ∧ E "Wrong" (.str "key") M) ∨
    ∃ (d : List Nat) (c k : Nat), x = .lst (d.map nI) ∧ y = nI c ∧ z = nI k ∧ d.length ≤ 6 ∧ octs d ∧ c ≤ 14 ∧ k ≤ 65535 ∧ Q (.lst ((gF d c k).map nI)) M)
theorem len_guarded (ds : List D) (M : MM) (Q : DK) (E : DX) : sp_guarded ds M Q E → ds.length = 3 := fun ⟨_, _, _, e, _⟩ => e ▸ rfl
theorem use_guarded (ds : List D) (M : MM) (Q : DK) (E : DX) : sp_guarded ds M Q E → u_guarded sp_is_octets sp_is_number sp_check_of (fun _ nm d M' => ExitX M E nm d M') (ends M Q) (st 3 ds) M := fun ⟨x, y, z, e, px, py, pz, h⟩ => by
  subst e
  show u_guarded _ _ _ _ _ [some x, some y, some z] M
  unfold u_guarded
  have t1 : Tst (dNot (dTest (dCall sp_is_octets (dCons (dVar 0) (dCons (dC (.int 6)) dNil))))) [some x, some y, some z] M (!isOct x 6) := t_notB (t_val (v_call2 (v_var rfl) v_c fun K k => ⟨x, 6, rfl, px, by decide, k⟩))
  have t2 : Tst (dNot (dTest (dCall sp_is_number (dCons (dVar 1) (dCons (dC (.int 0)) (dCons (dC (.int 14)) dNil)))))) [some x, some y, some z] M (!isNum y 0 14) := t_notB (t_val (v_call3 (v_var rfl) v_c v_c fun K k => ⟨y, 0, 14, rfl, py, k⟩))
  have t3 : Tst (dNot (dTest (dCall sp_is_number (dCons (dVar 2) (dCons (dC (.int 0)) (dCons (dC (.int 65535)) dNil)))))) [some x, some y, some z] M (!isNum z 0 65535) := t_notB (t_val (v_call3 (v_var rfl) v_c v_c fun K k => ⟨z, 0, 65535, rfl, pz, k⟩))
  rcases h with ⟨h1, er⟩ | ⟨h1, h2, er⟩ | ⟨h1, h2, h3, er⟩ | ⟨d, c, k, rfl, rfl, rfl, hl, hd, hc, hk, q⟩
  · rw [h1] at t1
    exact seq_go fun N hN => if1 t1 (v_c _ (.all er))
  · rw [h1] at t1
    rw [h2] at t2
    exact seq_go fun N hN => if0 t1 (hN _ _ (seq_go fun N hN => if1 t2 (v_c _ (.all er))))
  · rw [h1] at t1
    rw [h2] at t2
    rw [h3] at t3
    exact seq_go fun N hN => if0 t1 (hN _ _ (seq_go fun N hN => if0 t2 (hN _ _ (seq_go fun N hN => if1 t3 (v_c _ (.all er))))))
  · rw [isOct_nI (by omega) hd] at t1
    rw [isNum_nI (by omega)] at t2 t3
    refine seq_go fun N hN => if0 t1 (hN _ _ (seq_go fun N hN => if0 t2 (hN _ _ (seq_go fun N hN => if0 t3 (hN _ _ ?_)))))
    have a1 : Val (dOp dShr (dVar 2) (dC (.int 8))) [some (.lst (d.map nI)), some (nI c), some (nI k)] M (nI (k / 256)) := v_op (x := nI k) (y := .int 8) (v_var rfl) v_c fun K k' => ⟨show (0 : Int) ≤ 8 by decide, by
      show K (.int ((k : Int) / 2 ^ (8 : Int).toNat)) M
      rw [show ((k : Int) / 2 ^ (8 : Int).toNat) = ((k / 256 : Nat) : Int) by
        rw [show (2 : Int) ^ (8 : Int).toNat = 256 by decide]
        omega]
      exact k'⟩
    have a2 : Val (dOp dBand (dVar 2) (dC (.int 255))) [some (.lst (d.map nI)), some (nI c), some (nI k)] M (nI (k % 256)) := v_op (v_var rfl) v_c fun K k' => by
      have : Builtin.bitAnd (k : Int) 255 = ((k % 256 : Nat) : Int) := by
        have := Bits.bitAnd_mask (x := (k : Int)) 8 (by omega)
        rw [show (2 : Int) ^ 8 - 1 = 255 by decide] at this
        rw [this]
        omega
      show K (.int (Builtin.bitAnd (k : Int) 255)) M
      rw [this]
      exact k'
    have body : Val (dOp dAdd (dOp dAdd (dLst (dCons (dVar 1) dNil)) (dVar 0)) (dLst (dCons (dOp dShr (dVar 2) (dC (.int 8))) (dCons (dOp dBand (dVar 2) (dC (.int 255))) dNil)))) [some (.lst (d.map nI)), some (nI c), some (nI k)] M (.lst (([c] ++ d ++ [k / 256, k % 256]).map nI)) := by
      have := v_addL (v_addL (v_lst1 (v_var (i := 1) (d := nI c) (ds := [some (.lst (d.map nI)), some (nI c), some (nI k)]) (M := M) rfl)) (v_var (i := 0) (d := .lst (d.map nI)) rfl) rfl rfl (by simp; omega)) (v_lst2 a1 a2) rfl rfl (by simp; omega)
      rw [List.map_append, List.map_append]
      exact this
    have ck := v_call1 (sp := sp_check_of) (d := nI (crc ([c] ++ d ++ [k / 256, k % 256]))) body fun K k' => ⟨_, _, rfl, rfl, octs_body hd hc hk, k'⟩
    have fin := v_addL (v_lst2 ck (v_var (i := 1) (d := nI c) rfl)) (v_var (i := 0) (d := .lst (d.map nI)) rfl) rfl rfl (by simp; omega)
    exact fin _ (.all q)
/-! ### the law's own table -/
def lt1 (r b : Nat) : Nat := if (r / (256 * 2 ^ b)) % 2 = 1 then r ^^^ (285 * 2 ^ b) else r
def ltN (k : Nat) : Nat → Nat
  | 0 => k * 256
  | i + 1 => lt1 (ltN k i) (7 - i)
theorem lt_all : ((List.range 256).all fun k => ltN k 8 == s8 k) = true := by decide +kernel
def sp__law_check : DSp := sp_check_of
theorem len__law_check (ds : List D) (M : MM) (Q : DK) : sp__law_check ds M Q → ds.length = 1 := len_check_of ds M Q
theorem sub_255 : ((List.range 256).all fun f => (255 - f) == (f ^^^ 255)) = true := by decide +kernel
theorem use__law_check (ds : List D) (M : MM) (Q : DK) : sp__law_check ds M Q → u__law_check (ends M Q) (st 7 ds) M := fun ⟨x, l, e, hx, ho, q⟩ => by
  subst e
  show u__law_check _ [some x, none, none, none, none, none, none] M
  unfold u__law_check
  have hx' : ∀ X, seqOf (M ++ [X]) x = some (l.map nI) := fun X => by
    cases x with
    | lst ys => exact hx
    | loc n =>
      have hm := seq_loc hx
      simp only [seqOf]
      rw [List.getElem?_append_left (List.getElem?_eq_some_iff.mp hm).1, hm]
    | _ => simp [seqOf] at hx
  (try dsimp only); refine seq_go fun N hN => ?_; walk_at "ev"
  refine hN _ _ ?_; clear hN N
  refine seq_go fun N hN => for_rng (n := 256) v_c (by decide) ?_
  refine rng0_inv 256 (fun k ds M' => ∃ (y2 y3 y4 : Option D), ds = [some x, some (.loc M.length), y2, y3, y4, none, none] ∧ M' = M ++ [.lst (((List.range k).map s8).map nI)]) ⟨_, _, _, rfl, rfl⟩ ?_ ?_
  · rintro k hk ds M' ⟨y2, y3, y4, rfl, rfl⟩ K hK
    refine ⟨trivial, ?_⟩
    refine seq_go fun N2 hN2 => asg (v_mulI2 (v_var (d := nI k) rfl) v_c (by decide)) (hN2 _ _ ?_)
    clear hN2 N2
    simp only [List.set_cons_succ, List.set_cons_zero]
    refine seq_go fun N2 hN2 => ?_
    walk_at "ev"
    refine ⟨8, RgC.neg (i := 7) (j := -1) (by decide) (by decide) (by decide) (by decide), ?_⟩
    refine loop_inv (fun (i : Nat) => D.int (7 + (i : Int) * (-1))) (List.range 8) (fun pre ds M' => ∃ (y4 : Option D), ds = [some x, some (.loc M.length), some (nI k), some (nI (ltN k pre.length)), y4, none, none] ∧ M' = M ++ [.lst (((List.range k).map s8).map nI)]) ⟨_, by rw [show ((k : Int) * 256) = ((ltN k 0 : Nat) : Int) by show (k : Int) * 256 = ((k * 256 : Nat) : Int); omega]; rfl, rfl⟩ ?_ ?_
    · rintro pre i post e ds M' ⟨y4, rfl, rfl⟩ K2 hK2
      refine ⟨trivial, ?_⟩
      have hi : i = pre.length := by
        have h1 : (List.range 8)[pre.length]? = some i := by rw [e]; simp
        have z := List.getElem?_eq_some_iff.mp h1
        rw [← z.2, List.getElem_range]
      have h8 : i < 8 := List.mem_range.mp (by rw [e]; simp)
      rw [← hi]
      generalize hr : ltN k i = r
      have eb : (7 + (i : Int) * (-1)) = ((7 - i : Nat) : Int) := by omega
      have pw : (256 : Int) * 2 ^ (7 + (i : Int) * (-1)).toNat = ((256 * 2 ^ (7 - i) : Nat) : Int) := by
        rw [eb, Int.toNat_natCast]
        exact_mod_cast rfl
      have pw2 : (285 : Int) * 2 ^ (7 + (i : Int) * (-1)).toNat = ((285 * 2 ^ (7 - i) : Nat) : Int) := by
        rw [eb, Int.toNat_natCast]
        exact_mod_cast rfl
      have p7 : 2 ^ (7 - i) ≤ 2 ^ 7 := Nat.pow_le_pow_right (by decide) (by omega)
      have p0 : 0 < 2 ^ (7 - i) := Nat.two_pow_pos _
      have fin : ∀ ds', ds' = [some x, some (.loc M.length), some (nI k), some (nI (lt1 r (7 - i))), some (.int (7 + (i : Int) * (-1))), none, none] → K2 ds' (M ++ [.lst (((List.range k).map s8).map nI)]) := fun ds' hd => by
        subst hd
        refine hK2 _ _ ⟨some (.int (7 + (i : Int) * (-1))), ?_, rfl⟩
        rw [List.length_append, List.length_singleton, ← hi]
        show _ = [_, _, _, some (nI (lt1 (ltN k i) (7 - i))), _, _, _]
        rw [hr]
      have tst : Tst (dTest (dOp dEq (dOp dMod (dCB (AX.a1 intD) (dCons (dOp dFdiv (dVar 3) (dOp dShl (dC (.int 256)) (dVar 4))) dNil)) (dC (.int 2))) (dC (.int 1)))) [some x, some (.loc M.length), some (nI k), some (nI r), some (.int (7 + (i : Int) * (-1))), none, none] (M ++ [.lst (((List.range k).map s8).map nI)]) (decide ((r / (256 * 2 ^ (7 - i))) % 2 = 1)) := t_val (by
        have sh : Val (dOp dShl (dC (.int 256)) (dVar 4)) [some x, some (.loc M.length), some (nI k), some (nI r), some (.int (7 + (i : Int) * (-1))), none, none] (M ++ [.lst (((List.range k).map s8).map nI)]) (nI (256 * 2 ^ (7 - i))) := v_op v_c (v_var rfl) fun K k' => ⟨⟨by omega, by omega, by decide⟩, by
          show K (.int ((256 : Int) * 2 ^ (7 + (i : Int) * (-1)).toNat)) _
          rw [pw]
          exact k'⟩
        have dv := v_fdivI (v_var (i := 3) (d := nI r) (ds := [some x, some (.loc M.length), some (nI k), some (nI r), some (.int (7 + (i : Int) * (-1))), none, none]) (M := M ++ [.lst (((List.range k).map s8).map nI)]) rfl) sh (by omega) (by omega)
        rw [show (r : Int) / ((256 * 2 ^ (7 - i) : Nat) : Int) = ((r / (256 * 2 ^ (7 - i)) : Nat) : Int) from rfl] at dv
        have md := v_modI (v_int dv) (v_c (d := .int 2)) (by decide)
        rw [show ((r / (256 * 2 ^ (7 - i)) : Nat) : Int) % 2 = (((r / (256 * 2 ^ (7 - i))) % 2 : Nat) : Int) by omega] at md
        have := v_eqI md (v_c (d := .int 1))
        rw [show decide ((((r / (256 * 2 ^ (7 - i))) % 2 : Nat) : Int) = 1) = decide ((r / (256 * 2 ^ (7 - i))) % 2 = 1) from decide_eq_decide.mpr (by omega)] at this
        exact this)
      refine if_b tst (fun hb => ?_) fun hb => ?_
      · have hb := of_decide_eq_true hb
        refine asg (d := nI (lt1 r (7 - i))) (v_op (x := nI r) (y := nI (285 * 2 ^ (7 - i))) (v_var rfl) (v_op v_c (v_var rfl) fun K k' => ⟨⟨by omega, by omega, by decide⟩, by
          show K (.int ((285 : Int) * 2 ^ (7 + (i : Int) * (-1)).toNat)) _
          rw [pw2]
          exact k'⟩) fun K k' => by
            show K (.int (Builtin.bitXor (r : Int) ((285 * 2 ^ (7 - i) : Nat) : Int))) _
            rw [xor_int]
            unfold lt1 at k'
            rw [if_pos hb] at k'
            exact k') (fin _ rfl)
      · have hb := of_decide_eq_false hb
        refine fin _ ?_
        unfold lt1
        rw [if_neg hb]
        rfl
    · rintro ds M' ⟨y4, rfl, rfl⟩
      refine ⟨trivial, hN2 _ _ ?_⟩
      rw [List.length_range]
      rw [show ltN k 8 = s8 k from beq_iff_eq.mp (all_to lt_all hk)]
      refine s_app rfl (storeL M _) (v_var rfl) (size_ok (by simp; omega)) ?_
      rw [storeS]
      refine hK _ _ ⟨_, _, _, rfl, ?_⟩
      rw [List.range_succ, List.map_append, List.map_append]
      rfl
  · rintro ds M' ⟨y2, y3, y4, rfl, rfl⟩
    refine ⟨trivial, hN _ _ ?_⟩
    clear hN N
    refine seq_go fun N hN => asg v_c (hN _ _ ?_)
    clear hN N
    simp only [List.set_cons_succ, List.set_cons_zero]
    refine seq_go fun N hN => for_seq (v_var rfl) (hx' _) fun chk hc => ?_
    refine loop_inv nI l (fun pre ds M' => ∃ (y6 : Option D), ds = [some x, some (.loc M.length), y2, y3, y4, some (nI (crcS 255 pre)), y6] ∧ M' = M ++ [.lst (((List.range 256).map s8).map nI)]) ⟨_, rfl, rfl⟩ ?_ ?_
    · rintro pre o post e ds M' ⟨y6, rfl, rfl⟩ K hK
      refine ⟨hc, ?_⟩
      have o256 : o < 256 := ho o (by rw [e]; simp)
      have f256 : crcS 255 pre < 256 := crcS_lt (by decide) fun y hy => ho y (by rw [e]; simp [hy])
      have g256 := xor_lt f256 o256
      refine asg (d := nI (s8 (crcS 255 pre ^^^ o))) (v_ixS (x := .loc M.length) (xs := ((List.range 256).map s8).map nI) (i := ((crcS 255 pre ^^^ o : Nat) : Int)) (v_var rfl) (v_op (x := nI (crcS 255 pre)) (y := nI o) (v_var rfl) (v_var rfl) fun K k => by
        show K (.int (Builtin.bitXor ((crcS 255 pre : Nat) : Int) (o : Int))) _
        rw [xor_int]
        exact k) (by simp only [seqOf, storeL]) (atI_map nI (by rw [List.getElem?_map, List.getElem?_range g256]; rfl))) (hK _ _ ⟨some (nI o), ?_, rfl⟩)
      rw [crcS_snoc]
      rfl
    · rintro ds M' ⟨y6, rfl, rfl⟩
      refine ⟨hc, hN _ _ ?_⟩
      have f256 : crcS 255 l < 256 := crcS_lt (by decide) ho
      refine v_subI v_c (v_var (d := nI (crcS 255 l)) rfl) _ (.keep _ (by simp [D.pure]) ?_)
      have := beq_iff_eq.mp (all_to sub_255 f256)
      rw [show (255 : Int) - ((crcS 255 l : Nat) : Int) = ((255 - crcS 255 l : Nat) : Int) by omega, this]
      exact q
def sp__law_guarded : DSp := fun ds M Q => ∃ (d : List Nat) (c k : Nat), ds = [.lst (d.map nI), nI c, nI k] ∧ d.length ≤ 60 ∧ octs d ∧ c ≤ 14 ∧ k ≤ 65535 ∧ Q (.lst ((gF d c k).map nI)) M
theorem len__law_guarded (ds : List D) (M : MM) (Q : DK) : sp__law_guarded ds M Q → ds.length = 3 := fun ⟨_, _, _, e, _⟩ => e ▸ rfl
theorem use__law_guarded (ds : List D) (M : MM) (Q : DK) : sp__law_guarded ds M Q → u__law_guarded sp__law_check (ends M Q) (st 3 ds) M := fun ⟨d, c, k, e, hl, hd, hc, hk, q⟩ => by
  subst e
  show u__law_guarded _ _ [some (.lst (d.map nI)), some (nI c), some (nI k)] M
  unfold u__law_guarded
  have a1 : Val (dOp dFdiv (dVar 2) (dC (.int 256))) [some (.lst (d.map nI)), some (nI c), some (nI k)] M (nI (k / 256)) := by
    have := v_fdivI (v_var (i := 2) (d := nI k) (ds := [some (.lst (d.map nI)), some (nI c), some (nI k)]) (M := M) rfl) (v_c (d := .int 256)) (by decide) (by decide)
    rw [show (k : Int) / 256 = ((k / 256 : Nat) : Int) by omega] at this
    exact this
  have a2 : Val (dOp dMod (dCB (AX.a1 intD) (dCons (dVar 2) dNil)) (dC (.int 256))) [some (.lst (d.map nI)), some (nI c), some (nI k)] M (nI (k % 256)) := by
    have := v_modI (v_int (v_var (i := 2) (d := nI k) (ds := [some (.lst (d.map nI)), some (nI c), some (nI k)]) (M := M) rfl)) (v_c (d := .int 256)) (by decide)
    rw [show (k : Int) % 256 = ((k % 256 : Nat) : Int) by omega] at this
    exact this
  have body : Val (dOp dAdd (dOp dAdd (dLst (dCons (dVar 1) dNil)) (dVar 0)) (dLst (dCons (dOp dFdiv (dVar 2) (dC (.int 256))) (dCons (dOp dMod (dCB (AX.a1 intD) (dCons (dVar 2) dNil)) (dC (.int 256))) dNil)))) [some (.lst (d.map nI)), some (nI c), some (nI k)] M (.lst (([c] ++ d ++ [k / 256, k % 256]).map nI)) := by
    have := v_addL (v_addL (v_lst1 (v_var (i := 1) (d := nI c) (ds := [some (.lst (d.map nI)), some (nI c), some (nI k)]) (M := M) rfl)) (v_var (i := 0) (d := .lst (d.map nI)) rfl) rfl rfl (by simp; omega)) (v_lst2 a1 a2) rfl rfl (by simp; omega)
    rw [List.map_append, List.map_append]
    exact this
  have ck := v_call1 (sp := sp__law_check) (d := nI (crc ([c] ++ d ++ [k / 256, k % 256]))) body fun K k' => ⟨_, _, rfl, rfl, octs_body hd hc hk, k'⟩
  have fin := v_addL (v_lst2 ck (v_var (i := 1) (d := nI c) rfl)) (v_var (i := 0) (d := .lst (d.map nI)) rfl) rfl rfl (by simp; omega)
  exact fin _ (.all q)
end PQ

/-! guarded messages: readers and writers -/
namespace PR
open PySem L2 AX PB PF PQ
abbrev ns_Writer : List Str := ["key", "counter"]
abbrev ns_Reader : List Str := ["key", "most", "limit", "now", "counter", "last", "bell", "counts"]
def u_Writer___init__ (C : Addr) : DS :=
  (dSeq (dAsg (dVar 1) (dgFld C ns_Writer 0 "key" (dVar 0)))
  (dAsg (dC (.int 0)) (dgFld C ns_Writer 1 "counter" (dVar 0))))
def u_Writer_write (C : Addr) (sp_guarded : DSpX) (wd : DWX) : DS :=
  (dSeq (dAsg (dCallX sp_guarded wd (dCons (dVar 1) (dCons (dFld C ns_Writer 1 (dVar 0)) (dCons (dFld C ns_Writer 0 (dVar 0)) dNil)))) (dgN 2))
  (dSeq (dAsg (dOp dMod (dOp dAdd (dFld C ns_Writer 1 (dVar 0)) (dC (.int 1))) (dOp dAdd (dC (.int 14)) (dC (.int 1)))) (dgFld C ns_Writer 1 "counter" (dVar 0)))
  (dRet (dVar 2))))
def u_Reader___init__ (C : Addr) : DS :=
  (dSeq (dAsg (dVar 1) (dgFld C ns_Reader 0 "key" (dVar 0)))
  (dSeq (dAsg (dVar 2) (dgFld C ns_Reader 1 "most" (dVar 0)))
  (dSeq (dAsg (dVar 3) (dgFld C ns_Reader 2 "limit" (dVar 0)))
  (dSeq (dAsg (dC (.int 0)) (dgFld C ns_Reader 3 "now" (dVar 0)))
  (dSeq (dAsg (dC .non) (dgFld C ns_Reader 4 "counter" (dVar 0)))
  (dSeq (dAsg (dC .non) (dgFld C ns_Reader 5 "last" (dVar 0)))
  (dSeq (dAsg (dVar 3) (dgFld C ns_Reader 6 "bell" (dVar 0)))
  (dAsg (dDisp (((dC (.str "fine")), (dC (.int 0))) :: (((dC (.str "lost")), (dC (.int 0))) :: (((dC (.str "again")), (dC (.int 0))) :: (((dC (.str "far")), (dC (.int 0))) :: (((dC (.str "changed")), (dC (.int 0))) :: (((dC (.str "late")), (dC (.int 0))) :: []))))))) (dgFld C ns_Reader 7 "counts" (dVar 0))))))))))
def u_Reader_go_on (C : Addr) (wd : DWX) : DS :=
  (dSeq (dIfS (dTest (dOp dLt (dVar 1) (dFld C ns_Reader 3 (dVar 0))))
  (dRaise "DeedWrong" wd (dVar 1)) dNext)
  (dSeq (dAsg (dVar 1) (dgFld C ns_Reader 3 "now" (dVar 0)))
  (dSeq (dAsg (dNew dNil) (dgN 2))
  (dSeq (dWhile (dTest (dOp dLe (dFld C ns_Reader 6 (dVar 0)) (dVar 1)))
  (dSeq (dDrop (dBM "list" appD (dVar 2) (dCons (dFld C ns_Reader 6 (dVar 0)) dNil)))
  (dSeq (dFldAug C ns_Reader 6 "bell" (dVar 0) (dFld C ns_Reader 2 (dVar 0)) dIAdd)
  (dSubAug (dFld C ns_Reader 7 (dVar 0)) (dC (.str "late")) (dC (.int 1)) dIAdd))))
  (dRet (dFrz (dVar 2)))))))
def u_Reader_is_right (C : Addr) (sp_is_octets : DSp) (sp_guarded : DSpX) : DS :=
  (dSeq (dIfS (dOr (dNot (dTest (dCall sp_is_octets (dCons (dVar 1) (dCons (dC (.int 8)) dNil))))) (dOr (dTest (dOp dLt (dCB (a1 lenD) (dCons (dVar 1) dNil)) (dC (.int 2)))) (dTest (dOp dGt (dOp dIx (dVar 1) (dC (.int 1))) (dC (.int 14))))))
  (dRet (dC (.bl false))) dNext)
  (dRet (dOp dEq (dCallX sp_guarded wd0 (dCons (dSl (dVar 1) (dPart (dC (.int 2))) dNoP) (dCons (dOp dIx (dVar 1) (dC (.int 1))) (dCons (dFld C ns_Reader 0 (dVar 0)) dNil)))) (dVar 1))))
def u_Reader_take (C : Addr) (sp_Reader_go_on : DSpX) (sp_Reader_is_right : DSp) (sp_Reader_counted : DSp) (sp_Reader_good : DSp) (wd : DWX) : DS :=
  (dSeq (dDrop (dMethX C ns_Reader sp_Reader_go_on wd (dVar 0) (dCons (dVar 2) dNil)))
  (dSeq (dIfS (dNot (dTest (dMeth C ns_Reader sp_Reader_is_right (dVar 0) (dCons (dVar 1) dNil))))
  (dRet (dMeth C ns_Reader sp_Reader_counted (dVar 0) (dCons (dC (.str "changed")) (dCons (dC (.str "changed")) dNil)))) dNext)
  (dSeq (dIfS (dTest (dOp dIs (dFld C ns_Reader 4 (dVar 0)) (dC .non)))
  (dRet (dMeth C ns_Reader sp_Reader_good (dVar 0) (dCons (dVar 1) (dCons (dC (.str "fine")) (dCons (dC (.str "fine")) dNil))))) dNext)
  (dSeq (dAsg (dOp dMod (dOp dSub (dOp dIx (dVar 1) (dC (.int 1))) (dFld C ns_Reader 4 (dVar 0))) (dOp dAdd (dC (.int 14)) (dC (.int 1)))) (dgN 3))
  (dSeq (dIfS (dTest (dOp dEq (dVar 3) (dC (.int 0))))
  (dRet (dMeth C ns_Reader sp_Reader_counted (dVar 0) (dCons (dC (.str "again")) (dCons (dC (.str "again")) dNil)))) dNext)
  (dSeq (dIfS (dTest (dOp dEq (dVar 3) (dC (.int 1))))
  (dRet (dMeth C ns_Reader sp_Reader_good (dVar 0) (dCons (dVar 1) (dCons (dC (.str "fine")) (dCons (dC (.str "fine")) dNil))))) dNext)
  (dSeq (dIfS (dTest (dOp dLe (dOp dSub (dVar 3) (dC (.int 1))) (dFld C ns_Reader 1 (dVar 0))))
  (dRet (dMeth C ns_Reader sp_Reader_good (dVar 0) (dCons (dVar 1) (dCons (dC (.str "lost")) (dCons (dTup (dCons (dC (.str "lost")) (dCons (dOp dSub (dVar 3) (dC (.int 1))) dNil))) dNil))))) dNext)
  (dSeq (dAsg (dOp dIx (dVar 1) (dC (.int 1))) (dgFld C ns_Reader 4 "counter" (dVar 0)))
  (dRet (dMeth C ns_Reader sp_Reader_counted (dVar 0) (dCons (dC (.str "far")) (dCons (dTup (dCons (dC (.str "far")) (dCons (dOp dSub (dVar 3) (dC (.int 1))) dNil))) dNil))))))))))))
def u_Reader_good (C : Addr) (sp_Reader_counted : DSp) : DS :=
  (dSeq (dAsg (dOp dIx (dVar 1) (dC (.int 1))) (dgFld C ns_Reader 4 "counter" (dVar 0)))
  (dSeq (dAsg (dSl (dVar 1) (dPart (dC (.int 2))) dNoP) (dgFld C ns_Reader 5 "last" (dVar 0)))
  (dSeq (dAsg (dOp dAdd (dFld C ns_Reader 3 (dVar 0)) (dFld C ns_Reader 2 (dVar 0))) (dgFld C ns_Reader 6 "bell" (dVar 0)))
  (dRet (dMeth C ns_Reader sp_Reader_counted (dVar 0) (dCons (dVar 2) (dCons (dVar 3) dNil)))))))
def u_Reader_counted (C : Addr) : DS :=
  (dSeq (dSubAug (dFld C ns_Reader 7 (dVar 0)) (dVar 1) (dC (.int 1)) dIAdd)
  (dRet (dVar 2)))
local macro_rules | `(tactic| walk_at "ev") => `(tactic| (simp only [dCallX, dFld, dgFld, dMeth, dMethX, dMake, dMakeX, insOf, putD_nil, putD_zero, putD_succ, dRaise, dExF, wlook_hit, dSeq, dAsg, dNew, dC, dgN, dFor, dList, dVar, dIf, dAnd, dOr, dNot, dTest, dOp, dUn, dCB, a1, a2, lenD, dCons, dNil, dNeg, dEq, dNe, dIx, ixL, dAdd, dSub, dI2, dI2C, dFdiv, dMod, dLt, dLe, dGt, dGe, dDrop, dBM, tyD, appD, dIfS, dNext, dRet, dFrz, dPar, dgTup, dgCons, dgNil, dgSub, dWhile, dBrk, dCnt, dRetN, dTupI, dStrI, dLc, dYes, wipeD, dTru, truD, dNoP, dChain, dPow, dShl, dShr, dBand, dBor, dBxor, dMul, dIn, dNotIn, inG, dgN, dAug, dIAdd, onInts, onBls, dSset, max2D, min2D, sumL, allL, anyL, maxL, minL, sortedL, listN, dRng1, dRng2, dTup, dLst, dIs, dIsNot, D.isNon, intD, absD, listD, seqOf, dSl, dNoP, dPart, slD, dTimes, dAndV, dOrV, dNotV, dCall, dDisp, dPairs, dgSub, dSetI, dkey, keysOf, strD, addL, storeA0, storeA, storeB0, storeB, List.length_append, List.append_assoc, List.cons_append, List.nil_append, Int.reduceEq, Int.reduceLT, Int.reduceLE, Int.reduceNeg, Int.reduceAdd, Int.reduceSub, Int.reducePow,
  List.getElem?_cons_zero, List.getElem?_cons_succ, List.set_cons_zero, List.set_cons_succ, List.length_cons, List.length_nil, List.length_map, Nat.reduceAdd, Bool.not_eq_true, Bool.not_true, Bool.not_false, if_true, if_false, Bool.false_eq_true, decide_eq_true_eq, true_and, and_true, reduceCtorEq, ite_true, ite_false, Nat.zero_le, atI0, atI1, atI2, atI3, atI4, atI5, atI6]))
local macro_rules | `(tactic| walk_at "sd") => `(tactic| first | assumption | decide | omega | (exact size_ok (by omega)) | (exact size_le (by omega)) | (unfold TimesOk; omega) | (rw [sizeLine_eq]; decide))
local macro_rules | `(tactic| walk_at "go") => `(tactic| repeat ((with_reducible refine And.intro ?_ ?_); (· walk_at "sd")))
local macro_rules | `(tactic| walk_at "ft") => `(tactic| repeat (first | assumption | exact fit_int _ _ | exact fit_str _ _ | exact fit_bl _ _ | exact fit_non _ | exact fits_nil | refine fits_cons ?_ ?_ | exact fit_ints _ (by omega) _ | refine fit_lst (by simp only [List.length_cons, List.length_nil]; omega) ?_ | refine fit_tup (by simp only [List.length_cons, List.length_nil]; omega) ?_))
local macro_rules | `(tactic| walk_at "fo") => `(tactic| repeat ((with_reducible refine And.intro ?_ ?_); (· first | exact ⟨rfl, rfl⟩ | exact ⟨rfl, rfl, Nat.le_of_ble_eq_true rfl, Nat.le_of_ble_eq_true rfl⟩ | exact size_le (by decide))))
local macro_rules | `(tactic| walk_at "lv") => `(tactic| (simp only [dCallX, dFld, dgFld, dMeth, dMethX, dMake, dMakeX, insOf, putD_nil, putD_zero, putD_succ, dRaise, dExF, wlook_hit, dSeq, dAsg, dNew, dC, dgN, dFor, dList, dVar, dIf, dAnd, dOr, dNot, dTest, dOp, dUn, dCB, a1, a2, dCons, dNil, dNeg, dEq, dNe, dAdd, dSub, dI2, dI2C, dFdiv, dMod, dLt, dLe, dGt, dGe, dDrop, dBM, tyD, appD, dIfS, dNext, dRet, dFrz, dPar, dgTup, dgCons, dgNil, dgSub, dWhile, dBrk, dCnt, dRetN, dTupI, dStrI, dLc, dYes, wipeD, dTru, truD, dNoP, dChain, dPow, dShl, dShr, dBand, dBor, dBxor, dMul, dIn, dNotIn, inG, dgN, dAug, dIAdd, onInts, onBls, dSset, max2D, min2D, sumL, allL, anyL, maxL, minL, sortedL, dRng1, dRng2, dTup, dLst, dIs, dIsNot, D.isNon, intD, absD, seqOf, dSl, dNoP, dPart, dTimes, dAndV, dOrV, dNotV, dCall, dDisp, dPairs, dgSub, dSetI, dkey, keysOf, strD, addL, storeA0, storeA, storeB0, storeB, List.length_append, List.append_assoc, List.cons_append, List.nil_append, Int.reduceEq, Int.reduceLT, Int.reduceLE, Int.reduceNeg, Int.reduceAdd, Int.reduceSub, Int.reducePow,
  List.getElem?_cons_zero, List.getElem?_cons_succ, List.set_cons_zero, List.set_cons_succ, List.length_cons, List.length_nil, List.length_map, Nat.reduceAdd, Bool.not_eq_true, Bool.not_true, Bool.not_false, if_true, if_false, Bool.false_eq_true, decide_eq_true_eq, true_and, and_true, reduceCtorEq, ite_true, ite_false, Nat.zero_le, atI0, atI1, atI2, atI3, atI4, atI5, atI6]))
/-! ### the words that are counted -/
inductive Wd where
  | fine | lost | again | far | changed | late
def Wd.nm : Wd → Str
  | .fine => "fine" | .lost => "lost" | .again => "again" | .far => "far" | .changed => "changed" | .late => "late"
structure Cn where
  fine : Int
  lost : Int
  again : Int
  far : Int
  changed : Int
  late : Int
def Cn.get (c : Cn) : Wd → Int
  | .fine => c.fine | .lost => c.lost | .again => c.again | .far => c.far | .changed => c.changed | .late => c.late
def Cn.put (c : Cn) (w : Wd) (i : Int) : Cn := match w with
  | .fine => { c with fine := i } | .lost => { c with lost := i } | .again => { c with again := i } | .far => { c with far := i } | .changed => { c with changed := i } | .late => { c with late := i }
def Cn.add (c : Cn) (w : Wd) : Cn := c.put w (c.get w + 1)
def cn0 : Cn := ⟨0, 0, 0, 0, 0, 0⟩
abbrev cL (c : Cn) : List (Key × D) := [(.inr "fine", .int c.fine), (.inr "lost", .int c.lost), (.inr "again", .int c.again), (.inr "far", .int c.far), (.inr "changed", .int c.changed), (.inr "late", .int c.late)]
def cO (c : Cn) : MO := .dic (cL c)
theorem cn_look (c : Cn) (w : Wd) : dlook (cL c) (.inr w.nm) = some (.int (c.get w)) := by cases w <;> rfl
theorem cn_put (c : Cn) (w : Wd) (i : Int) : dput (cL c) (.inr w.nm) (.int i) = cL (c.put w i) := by cases w <;> rfl
/-! ### readers -/
structure Rd where
  key : Nat
  most : Int
  limit : Int
  now : Int
  cn : Option Nat
  last : Option (List Nat)
  bell : Int
  c : Cn
def oN : Option Nat → D
  | none => .non
  | some n => nI n
def oL : Option (List Nat) → D
  | none => .non
  | some l => .lst (l.map nI)
def rO (C : Addr) (m : Nat) (r : Rd) : MO := .ins C [("key", nI r.key), ("most", .int r.most), ("limit", .int r.limit), ("now", .int r.now), ("counter", oN r.cn), ("last", oL r.last), ("bell", .int r.bell), ("counts", .loc m)]
/-- the store behind a deed -/
def wr (M : MM) (n m : Nat) (C : Addr) (r : Rd) : MM := (M.set n (rO C m r)).set m (cO r.c)
theorem duo {M : MM} {n m : Nat} {a b : MO} (hn : M[n]? = some a) (hm : M[m]? = some b) (hne : n ≠ m) : ∃ W : MO → MO → MM, M = W a b ∧ (∀ x y, (W x y)[n]? = some x) ∧ (∀ x y, (W x y)[m]? = some y) ∧ (∀ x y z, (W x y).set n z = W z y) ∧ (∀ x y z, (W x y).set m z = W x z) ∧ (∀ x y, W x y = (M.set n x).set m y) ∧ ∀ x y, (W x y).length = M.length := by
  obtain ⟨ln, en⟩ := List.getElem?_eq_some_iff.mp hn
  obtain ⟨lm, em⟩ := List.getElem?_eq_some_iff.mp hm
  refine ⟨fun x y => (M.set n x).set m y, ?_, fun x y => ?_, fun x y => ?_, fun x y z => ?_, fun x y z => List.set_set .., fun _ _ => rfl, fun x y => by simp⟩
  · show M = (M.set n a).set m b
    rw [← en, List.set_getElem_self, ← em, List.set_getElem_self]
  · rw [List.getElem?_set_ne (fun z => hne z.symm), List.getElem?_set_self ln]
  · rw [List.getElem?_set_self (by simpa using lm)]
  · show ((M.set n x).set m y).set n z = _
    rw [List.set_comm _ _ (fun e => hne e.symm), List.set_set]
/-- what a method of a reader asks -/
structure RA (C : Addr) (M : MM) (n m : Nat) (r : Rd) : Prop where
  hn : M[n]? = some (rO C m r)
  hm : M[m]? = some (cO r.c)
  ne : n ≠ m
def Rd.cnt (r : Rd) (w : Wd) : Rd := { r with c := r.c.add w }
def sp_Reader_counted (C : Addr) : DSp := fun ds M Q => ∃ (n m : Nat) (r : Rd) (w : Wd) (told : D), ds = [.loc n, .str w.nm, told] ∧ RA C M n m r ∧ Q told (wr M n m C (r.cnt w))
theorem len_Reader_counted (C : Addr) (ds : List D) (M : MM) (Q : DK) : sp_Reader_counted C ds M Q → ds.length = 3 := fun ⟨_, _, _, _, _, e, _⟩ => e ▸ rfl
theorem use_Reader_counted (C : Addr) (ds : List D) (M : MM) (Q : DK) : sp_Reader_counted C ds M Q → u_Reader_counted C (ends M Q) (st 3 ds) M := fun ⟨n, m, r, w, told, e, h, q⟩ => by
  subst e
  show u_Reader_counted _ _ [some (.loc n), some (.str w.nm), some told] M
  obtain ⟨W, e0, gn, gm, sn, sm, eW, lW⟩ := duo h.hn h.hm h.ne
  unfold u_Reader_counted dSeq dSubAug
  walk_at "ev"
  simp only [h.hn]
  unfold rO
  walk_at "ev"
  simp only [h.hm]
  unfold cO
  simp only [cn_look]
  walk_at "ev"
  walk_at "fo"
  refine Exit.all ?_
  rw [cn_put]
  have : wr M n m C (r.cnt w) = M.set m (.dic (cL (r.c.put w (r.c.get w + 1)))) := by
    unfold wr
    have z := eW (rO C m (r.cnt w)) (cO (r.cnt w).c)
    rw [← z]
    have z2 : M.set m (.dic (cL (r.c.put w (r.c.get w + 1)))) = W (rO C m r) (.dic (cL (r.c.put w (r.c.get w + 1)))) := by
      conv => lhs; rw [e0]
      rw [sm]
    rw [z2]
    rfl
  rw [← this]
  exact q
theorem wr_W {M : MM} {n m : Nat} {C : Addr} {r0 : Rd} (h : RA C M n m r0) {W : MO → MO → MM} (eW : ∀ x y, W x y = (M.set n x).set m y) (r : Rd) : W (rO C m r) (cO r.c) = wr M n m C r := eW _ _
theorem wr_ra {M : MM} {n m : Nat} {C : Addr} {r0 : Rd} (h : RA C M n m r0) (r : Rd) : RA C (wr M n m C r) n m r := by
  obtain ⟨W, e0, gn, gm, sn, sm, eW, lW⟩ := duo h.hn h.hm h.ne
  unfold wr
  rw [← eW]
  exact ⟨gn _ _, gm _ _, h.ne⟩
theorem wr_wr {M : MM} {n m : Nat} {C : Addr} {r0 : Rd} (h : RA C M n m r0) (r r' : Rd) : wr (wr M n m C r) n m C r' = wr M n m C r' := by
  obtain ⟨W, e0, gn, gm, sn, sm, eW, lW⟩ := duo h.hn h.hm h.ne
  unfold wr
  rw [← eW, sn, sm, eW]
def Rd.take1 (r : Rd) (o : List Nat) : Rd := { r with cn := some (o.getD 1 0), last := some (o.drop 2), bell := r.now + r.limit }
def sp_Reader_good (C : Addr) : DSp := fun ds M Q => ∃ (n m : Nat) (r : Rd) (o : List Nat) (w : Wd) (told : D), ds = [.loc n, .lst (o.map nI), .str w.nm, told] ∧ RA C M n m r ∧ 2 ≤ o.length ∧ Q told (wr M n m C ((r.take1 o).cnt w))
theorem len_Reader_good (C : Addr) (ds : List D) (M : MM) (Q : DK) : sp_Reader_good C ds M Q → ds.length = 4 := fun ⟨_, _, _, _, _, _, e, _⟩ => e ▸ rfl
theorem at_nI {o : List Nat} {i : Nat} (h : i < o.length) : atI (o.map nI) (i : Int) = some (nI (o.getD i 0)) := by
  rw [List.getD_eq_getElem?_getD, List.getElem?_eq_getElem h]
  exact atI_map nI (List.getElem?_eq_getElem h)
theorem use_Reader_good (C : Addr) (ds : List D) (M : MM) (Q : DK) : sp_Reader_good C ds M Q → u_Reader_good C (sp_Reader_counted C) (ends M Q) (st 4 ds) M := fun ⟨n, m, r, o, w, told, e, h, ho, q⟩ => by
  subst e
  show u_Reader_good _ _ _ [some (.loc n), some (.lst (o.map nI)), some (.str w.nm), some told] M
  obtain ⟨W, e0, gn, gm, sn, sm, eW, lW⟩ := duo h.hn h.hm h.ne
  have a1 := at_nI (i := 1) ho
  have c2 : cutD (o.map nI) (some 2) none = (o.drop 2).map nI := by
    rw [show (some 2 : Option Int) = some ((2 : Nat) : Int) from rfl, cut_drop, List.map_drop]
  unfold u_Reader_good
  rw [e0]
  unfold rO
  walk_at "ev"
  simp only [show ((1 : Nat) : Int) = 1 from rfl] at a1
  simp only [a1, gn, sn]
  walk_at "ev"
  simp only [c2, gn, sn]
  walk_at "fo"
  refine ⟨n, m, r.take1 o, w, told, rfl, ⟨gn _ _, gm _ _, h.ne⟩, .all ?_⟩
  have e1 := wr_W h eW (r.take1 o)
  have e2 : wr (W (rO C m (r.take1 o)) (cO (r.take1 o).c)) n m C ((r.take1 o).cnt w) = wr M n m C ((r.take1 o).cnt w) := by
    rw [e1, wr_wr h]
  rw [← e2] at q
  exact q
theorem under_rO {C : Addr} {m k : Nat} (r : Rd) (h : m < k) : (rO C m r).under k = true := by
  unfold rO
  have e1 : ∀ o, (oN o).under k = true := fun o => by cases o <;> simp [oN, D.under]
  have e2 : ∀ o, (oL o).under k = true := fun o => by
    cases o with
    | none => simp [oL, D.under]
    | some l => exact D.pure_under (by simp only [oL, D.pure]; exact pureL_of fun x hx => by obtain ⟨a, _, rfl⟩ := List.mem_map.mp hx; simp [D.pure])
  simp only [MO.under, List.map_cons, List.map_nil, D.underL, e1, e2, D.under, Bool.and_true, Bool.true_and, decide_eq_true_eq]
  exact h
theorem under_cO {k : Nat} (c : Cn) : (cO c).under k = true := by
  simp [cO, MO.under, D.underL, D.under]
/-- leaving with the reader changed, and with what was made meanwhile -/
theorem exitR {M L : MM} {n m : Nat} {C : Addr} {r0 r : Rd} {Q : DK} {d : D} (h : RA C M n m r0) (hd : d.pure = true) (q : Q d (wr M n m C r)) : Exit M Q d (wr M n m C r ++ L) := by
  have lm := (List.getElem?_eq_some_iff.mp h.hm).1
  have lw : (wr M n m C r).length = M.length := by unfold wr; simp
  refine .inr ⟨M.length, Nat.le_refl _, D.pure_under hd, fun k mo hk e => ?_, by
    rw [List.take_append_of_le_length (by omega), List.take_of_length_le (by omega)]
    exact q⟩
  rw [List.getElem?_append_left (by omega)] at e
  unfold wr at e
  by_cases c1 : k = m
  · subst c1
    rw [List.getElem?_set_self (by simpa using hk)] at e
    cases e
    exact .inl (under_cO _)
  · rw [List.getElem?_set_ne (fun z => c1 z.symm)] at e
    by_cases c2 : k = n
    · subst c2
      rw [List.getElem?_set_self hk] at e
      cases e
      exact .inl (under_rO r lm)
    · rw [List.getElem?_set_ne (fun z => c2 z.symm)] at e
      exact .inr e
/-! time -/
def bellsF (limit : Int) : Nat → Int → Int → List Int
  | 0, _, _ => []
  | f + 1, b, now => if b ≤ now then b :: bellsF limit f (b + limit) now else []
def onR (r : Rd) (now : Int) : List Int × Rd := (bellsF r.limit 300 r.bell now, { r with now := now, bell := r.bell + (bellsF r.limit 300 r.bell now).length * r.limit, c := r.c.put .late (r.c.late + (bellsF r.limit 300 r.bell now).length) })
theorem bells_len (limit : Int) : ∀ (f : Nat) (b now : Int), (bellsF limit f b now).length ≤ f
  | 0, _, _ => by simp [bellsF]
  | f + 1, b, now => by
    unfold bellsF
    split
    · rw [List.length_cons]
      have := bells_len limit f (b + limit) now
      omega
    · simp
def sp_Reader_go_on (C : Addr) : DSpX := fun ds M Q E => ∃ (n m : Nat) (r : Rd) (now : Int), ds = [.loc n, .int now] ∧ RA C M n m r ∧ ((now < r.now ∧ E "DeedWrong" (.int now) M) ∨ (r.now ≤ now ∧ 1 ≤ r.limit ∧ now < r.bell + 300 * r.limit ∧ Q (.lst ((onR r now).1.map D.int)) (wr M n m C (onR r now).2)))
theorem len_Reader_go_on (C : Addr) (ds : List D) (M : MM) (Q : DK) (E : DX) : sp_Reader_go_on C ds M Q E → ds.length = 2 := fun ⟨_, _, _, _, e, _⟩ => e ▸ rfl
theorem use_Reader_go_on (C : Addr) (ds : List D) (M : MM) (Q : DK) (E : DX) : sp_Reader_go_on C ds M Q E → u_Reader_go_on C (fun _ nm d M' => ExitX M E nm d M') (ends M Q) (st 3 ds) M := fun ⟨n, m, r, now, e, h, hh⟩ => by
  subst e
  show u_Reader_go_on _ _ _ [some (.loc n), some (.int now), none] M
  obtain ⟨W, e0, gn, gm, sn, sm, eW, lW⟩ := duo h.hn h.hm h.ne
  have ln := (List.getElem?_eq_some_iff.mp h.hn).1
  have lm := (List.getElem?_eq_some_iff.mp h.hm).1
  unfold u_Reader_go_on
  have now0 : Val (dFld C ns_Reader 3 (dVar 0)) [some (.loc n), some (.int now), none] M (.int r.now) := fun Q q => by
    walk_at "ev"
    simp only [h.hn]
    unfold rO
    walk_at "ev"
    walk_at "fo"
    exact q
  have t := t_val (v_lt (v_var (i := 1) (d := .int now) rfl) now0)
  rcases hh with ⟨hl, er⟩ | ⟨hl, l1, hb, q⟩
  · rw [decide_eq_true hl] at t
    exact seq_go fun N hN => if1 t (v_var (d := .int now) rfl _ (.all er))
  · rw [decide_eq_false (by omega)] at t
    refine seq_go fun N hN => if0 t (hN _ _ ?_)
    clear hN N
    refine seq_go fun N hN => ?_
    rw [e0]
    unfold rO
    walk_at "ev"
    simp only [gn, sn]
    walk_at "ev"
    walk_at "fo"
    refine hN _ _ ?_
    clear hN N
    (try dsimp only); refine seq_go fun N hN => ?_; walk_at "ev"
    refine hN _ _ ?_; clear hN N
    rw [lW]
    -- the list behind
    obtain ⟨S, sS, s1, s2, s3, p1, p2, p3, pS⟩ : ∃ S : MO → MO → MO → MM, (∀ x y z, W x y ++ [z] = S x y z) ∧ (∀ x y z, (S x y z)[n]? = some x) ∧ (∀ x y z, (S x y z)[m]? = some y) ∧ (∀ x y z, (S x y z)[M.length]? = some z) ∧ (∀ x y z u, (S x y z).set n u = S u y z) ∧ (∀ x y z u, (S x y z).set m u = S x u z) ∧ (∀ x y z u, (S x y z).set M.length u = S x y u) ∧ ∀ x y z, S x y z = W x y ++ [z] := by
      refine ⟨fun x y z => W x y ++ [z], fun _ _ _ => rfl, fun x y z => ?_, fun x y z => ?_, fun x y z => ?_, fun x y z u => ?_, fun x y z u => ?_, fun x y z u => ?_, fun _ _ _ => rfl⟩
      · rw [List.getElem?_append_left (by rw [lW]; exact ln)]
        exact gn x y
      · rw [List.getElem?_append_left (by rw [lW]; exact lm)]
        exact gm x y
      · have := storeL (W x y) z
        rw [lW] at this
        exact this
      · show (W x y ++ [z]).set n u = _
        rw [List.set_append_left _ _ (by rw [lW]; exact ln), sn]
      · show (W x y ++ [z]).set m u = _
        rw [List.set_append_left _ _ (by rw [lW]; exact lm), sm]
      · have := storeS (W x y) z u
        rw [lW] at this
        exact this
    rw [sS]
    refine seq_go fun N hN => ?_
    have fin : ∀ M', M' = S (rO C m (onR r now).2) (cO (onR r now).2.c) (.lst ((onR r now).1.map D.int)) → dRet (dFrz (dVar 2)) (ends M Q) [some (.loc n), some (.int now), some (.loc M.length)] M' := fun M' hM => by
      subst hM
      refine v_frz (v_var rfl) (s3 _ _ _) ?_
      rw [p3, pS, wr_W h eW]
      have lb := bells_len r.limit 300 r.bell now
      exact exitR h (fit_ints _ (by show (bellsF _ _ _ _).length ≤ _; omega) 0).p q
    refine while_inv (fun f ds M' => ∃ (acc : List Int) (b : Int), acc ++ bellsF r.limit f b now = bellsF r.limit 300 r.bell now ∧ b = r.bell + acc.length * r.limit ∧ now < b + f * r.limit ∧ ds = [some (.loc n), some (.int now), some (.loc M.length)] ∧ M' = S (rO C m { r with now := now, bell := b }) (cO (r.c.put .late (r.c.late + acc.length))) (.lst (acc.map D.int))) (m := 300) ⟨[], r.bell, rfl, by simp, by simpa using hb, rfl, ?_⟩ ?_
    · cases r with | mk key most limit nw cn last bell c => cases c; simp [rO, Cn.put]
    · rintro f ds0 M0 ⟨acc, b, e1, e2, e3, rfl, rfl⟩ KB hK
      have lb := bells_len r.limit 300 r.bell now
      have bl : Val (dFld C ns_Reader 6 (dVar 0)) [some (.loc n), some (.int now), some (.loc M.length)] (S (rO C m { r with now := now, bell := b }) (cO (r.c.put .late (r.c.late + acc.length))) (.lst (acc.map D.int))) (.int b) := fun Q q => by
        walk_at "ev"
        simp only [s1]
        unfold rO
        walk_at "ev"
        walk_at "fo"
        exact q
      refine t_val (v_le bl (v_var (i := 1) (d := .int now) rfl)) _ ?_
      by_cases hc : b ≤ now
      · rw [decide_eq_true hc]
        simp only [if_true]
        obtain ⟨f', rfl⟩ : ∃ f', f = f' + 1 := by
          cases f with
          | zero => exact absurd e3 (by simp; omega)
          | succ f' => exact ⟨f', rfl⟩
        have eb : bellsF r.limit (f' + 1) b now = b :: bellsF r.limit f' (b + r.limit) now := by
          conv => lhs; unfold bellsF
          rw [if_pos hc]
        rw [eb] at e1
        have la : acc.length + 1 ≤ 300 := by
          have := congrArg List.length e1
          simp at this
          omega
        refine seq_go fun N hN => ?_
        unfold rO
        walk_at "ev"
        simp only [s1]
        walk_at "ev"
        simp only [s3, p3]
        refine ⟨trivial, ?_⟩
        walk_at "fo"
        refine ⟨by rw [List.length_map]; unfold sizeLine; omega, ?_⟩
        refine hN _ _ ?_
        clear hN N
        refine seq_go fun N hN => ?_
        unfold dFldAug
        walk_at "ev"
        simp only [s1, p1]
        walk_at "ev"
        walk_at "fo"
        refine hN _ _ ?_
        clear hN N
        unfold dSubAug
        walk_at "ev"
        simp only [s1, s2, p2]
        walk_at "ev"
        simp only [s1, s2, p2]
        unfold cO
        have cl := fun c => cn_look c .late
        have cp := fun c i => cn_put c .late i
        simp only [Wd.nm] at cl cp
        simp only [cl, cp]
        walk_at "fo"
        refine ⟨by show 6 < _; unfold sizeLine; omega, ?_⟩
        refine hK f' _ _ (by omega) ⟨acc ++ [b], b + r.limit, by rw [List.append_assoc]; exact e1, ?_, ?_, rfl, ?_⟩
        · rw [e2, List.length_append, List.length_singleton]
          push_cast
          grind
        · push_cast at e3
          grind
        · rw [show ((acc ++ [b]).map D.int) = acc.map D.int ++ [D.int b] by simp]
          rw [List.length_append, List.length_singleton]
          have : (Cn.put r.c .late (r.c.late + acc.length)).put .late ((r.c.put .late (r.c.late + acc.length)).get .late + 1) = r.c.put .late (r.c.late + ((acc.length + 1 : Nat) : Int)) := by
            simp only [Cn.put, Cn.get]
            congr 1
            omega
          rw [this]
          rfl
      · rw [decide_eq_false hc]
        simp only [if_false]
        have eb : bellsF r.limit f b now = [] := by
          cases f with
          | zero => rfl
          | succ f' => unfold bellsF; rw [if_neg hc]
        rw [eb, List.append_nil] at e1
        refine hN _ _ (fin _ ?_)
        unfold onR
        rw [← e1, e2]
        rfl
/-! ### is_right -/
def right (key : Nat) (o : List Nat) : Bool := decide (o.getD 1 0 ≤ 14) && decide (gF (o.drop 2) (o.getD 1 0) key = o)
def sp_Reader_is_right (C : Addr) : DSp := fun ds M Q => ∃ (n m : Nat) (r : Rd) (o : List Nat), ds = [.loc n, .lst (o.map nI)] ∧ M[n]? = some (rO C m r) ∧ 2 ≤ o.length ∧ o.length ≤ 8 ∧ octs o ∧ r.key ≤ 65535 ∧ Q (.bl (right r.key o)) M
theorem len_Reader_is_right (C : Addr) (ds : List D) (M : MM) (Q : DK) : sp_Reader_is_right C ds M Q → ds.length = 2 := fun ⟨_, _, _, _, e, _⟩ => e ▸ rfl
theorem eqv_nIs (a b : List Nat) : D.eqv (.lst (a.map nI)) (.lst (b.map nI)) = decide (a = b) := by
  have : ∀ a b : List Nat, D.eqvL (a.map nI) (b.map nI) = decide (a = b) := by
    intro a
    induction a with
    | nil => intro b; cases b <;> rfl
    | cons x xs ih =>
      intro b
      cases b with
      | nil => rfl
      | cons y ys =>
        show (D.eqv (.int x) (.int y) && D.eqvL (xs.map nI) (ys.map nI)) = _
        rw [ih]
        show (decide ((x : Int) = y) && _) = _
        by_cases h : x = y
        · subst h
          by_cases h2 : xs = ys <;> simp [h2]
        · have h3 : ¬ ((x : Int) = y) := by omega
          simp [h, h3]
  exact this a b
theorem use_Reader_is_right (C : Addr) (ds : List D) (M : MM) (Q : DK) : sp_Reader_is_right C ds M Q → u_Reader_is_right C sp_is_octets sp_guarded (ends M Q) (st 2 ds) M := fun ⟨n, m, r, o, e, hn, l2, l8, ho, hk, q⟩ => by
  subst e
  show u_Reader_is_right _ _ _ _ [some (.loc n), some (.lst (o.map nI))] M
  generalize hds : [some (D.loc n), some (D.lst (o.map nI))] = ds
  have x1 : Val (dVar 1) ds M (.lst (o.map nI)) := v_var (by rw [← hds]; rfl)
  have key : Val (dFld C ns_Reader 0 (dVar 0)) ds M (nI r.key) := fun Q q => by
    subst hds
    walk_at "ev"
    simp only [hn]
    unfold rO
    walk_at "ev"
    walk_at "fo"
    exact q
  have i1 : Val (dOp dIx (dVar 1) (dC (.int 1))) ds M (nI (o.getD 1 0)) := v_ixS x1 v_c rfl (at_nI (i := 1) (by omega))
  have t : Tst (dOr (dNot (dTest (dCall sp_is_octets (dCons (dVar 1) (dCons (dC (.int 8)) dNil))))) (dOr (dTest (dOp dLt (dCB (a1 lenD) (dCons (dVar 1) dNil)) (dC (.int 2)))) (dTest (dOp dGt (dOp dIx (dVar 1) (dC (.int 1))) (dC (.int 14)))))) ds M (!isOct (.lst (o.map nI)) 8 || (decide ((o.length : Int) < 2) || decide ((14 : Int) < (o.getD 1 0 : Nat)))) :=
    t_or (t_notB (t_val (v_call2 x1 v_c fun K k => ⟨_, 8, rfl, (fit_oct (by omega)).p, by decide, k⟩))) fun _ => t_or (t_val (v_lt (v_lenN x1 rfl (by simp)) v_c)) fun _ => t_val (v_gt i1 v_c)
  rw [isOct_nI (by omega) ho, decide_eq_false (by omega : ¬ (o.length : Int) < 2), Bool.not_true, Bool.false_or, Bool.false_or] at t
  unfold u_Reader_is_right
  have e0 : ∀ c : Nat, right r.key o = (decide (o.getD 1 0 ≤ 14) && decide (gF (o.drop 2) (o.getD 1 0) r.key = o)) := fun _ => rfl
  by_cases h : o.getD 1 0 ≤ 14
  · rw [decide_eq_false (by omega)] at t
    refine seq_go fun N hN => if0 t (hN _ _ (s_ret' ?_))
    have sl : Val (dSl (dVar 1) (dPart (dC (.int 2))) dNoP) ds M (.lst ((o.drop 2).map nI)) := v_slL x1 rfl (fun Q q => v_c _ q) (fun Q q => q) (by
      rw [show (some 2 : Option Int) = some ((2 : Nat) : Int) from rfl, cut_drop, List.map_drop])
    have g : Val (dCallX sp_guarded wd0 (dCons (dSl (dVar 1) (dPart (dC (.int 2))) dNoP) (dCons (dOp dIx (dVar 1) (dC (.int 1))) (dCons (dFld C ns_Reader 0 (dVar 0)) dNil)))) ds M (.lst ((gF (o.drop 2) (o.getD 1 0) r.key).map nI)) := fun K k => v_callX3 sl i1 key ⟨_, _, _, rfl, (fit_oct (by rw [List.length_drop]; omega)).p, rfl, rfl, .inr (.inr (.inr ⟨o.drop 2, o.getD 1 0, r.key, rfl, rfl, rfl, by rw [List.length_drop]; omega, fun y hy => ho y (List.mem_of_mem_drop hy), h, hk, k⟩))⟩
    refine v_eqD g x1 (fit_oct ?_) (fit_oct ?_) (by decide) _ (.all ?_)
    · simp [gF]; omega
    · omega
    · rw [eqv_nIs]
      rw [e0 0, decide_eq_true h, Bool.true_and] at q
      exact q
  · rw [decide_eq_true (by omega)] at t
    refine seq_go fun N hN => if1 t (s_ret' (v_c _ (.all ?_)))
    rw [e0 0, decide_eq_false h, Bool.false_and] at q
    exact q
/-! ### methods of readers -/
theorem ins_rO {C : Addr} {M : MM} {n m : Nat} {r : Rd} (hn : M[n]? = some (rO C m r)) : insOf C ns_Reader (.loc n) M := by
  unfold insOf
  simp only [hn]
  unfold rO
  exact ⟨rfl, rfl⟩
theorem m_rd1 {C : Addr} {M : MM} {n m : Nat} {r : Rd} {ds : DEnv} {sp : DSp} {e0 e1 : DE} {x : D} {Q : DK} (h0 : Val e0 ds M (.loc n)) (hn : M[n]? = some (rO C m r)) (h1 : Val e1 ds M x) (k : sp [.loc n, x] M Q) : dMeth C ns_Reader sp e0 (dCons e1 dNil) ds M Q := h0 _ ⟨ins_rO hn, h1 _ k⟩
theorem m_rd2 {C : Addr} {M : MM} {n m : Nat} {r : Rd} {ds : DEnv} {sp : DSp} {e0 e1 e2 : DE} {x y : D} {Q : DK} (h0 : Val e0 ds M (.loc n)) (hn : M[n]? = some (rO C m r)) (h1 : Val e1 ds M x) (h2 : Val e2 ds M y) (k : sp [.loc n, x, y] M Q) : dMeth C ns_Reader sp e0 (dCons e1 (dCons e2 dNil)) ds M Q := h0 _ ⟨ins_rO hn, h1 _ (h2 _ k)⟩
theorem m_rd3 {C : Addr} {M : MM} {n m : Nat} {r : Rd} {ds : DEnv} {sp : DSp} {e0 e1 e2 e3 : DE} {x y z : D} {Q : DK} (h0 : Val e0 ds M (.loc n)) (hn : M[n]? = some (rO C m r)) (h1 : Val e1 ds M x) (h2 : Val e2 ds M y) (h3 : Val e3 ds M z) (k : sp [.loc n, x, y, z] M Q) : dMeth C ns_Reader sp e0 (dCons e1 (dCons e2 (dCons e3 dNil))) ds M Q := h0 _ ⟨ins_rO hn, h1 _ (h2 _ (h3 _ k))⟩
theorem mx_rd1 {C : Addr} {M : MM} {n m : Nat} {r : Rd} {ds : DEnv} {sp : DSpX} {wd : DWX} {e0 e1 : DE} {x : D} {Q : DK} (h0 : Val e0 ds M (.loc n)) (hn : M[n]? = some (rO C m r)) (h1 : Val e1 ds M x) (k : sp [.loc n, x] M Q (wd ds)) : dMethX C ns_Reader sp wd e0 (dCons e1 dNil) ds M Q := h0 _ ⟨ins_rO hn, h1 _ k⟩
theorem mx_rd2 {C : Addr} {M : MM} {n m : Nat} {r : Rd} {ds : DEnv} {sp : DSpX} {wd : DWX} {e0 e1 e2 : DE} {x y : D} {Q : DK} (h0 : Val e0 ds M (.loc n)) (hn : M[n]? = some (rO C m r)) (h1 : Val e1 ds M x) (h2 : Val e2 ds M y) (k : sp [.loc n, x, y] M Q (wd ds)) : dMethX C ns_Reader sp wd e0 (dCons e1 (dCons e2 dNil)) ds M Q := h0 _ ⟨ins_rO hn, h1 _ (h2 _ k)⟩
theorem f_most {C : Addr} {M : MM} {n m i : Nat} {r : Rd} {ds : DEnv} (h0 : Val (dVar i) ds M (.loc n)) (hn : M[n]? = some (rO C m r)) : Val (dFld C ns_Reader 1 (dVar i)) ds M (.int r.most) := fun Q q => h0 _ (by
  simp only [hn]
  unfold rO
  walk_at "ev"
  walk_at "fo"
  exact q)
theorem f_cn {C : Addr} {M : MM} {n m i : Nat} {r : Rd} {ds : DEnv} (h0 : Val (dVar i) ds M (.loc n)) (hn : M[n]? = some (rO C m r)) : Val (dFld C ns_Reader 4 (dVar i)) ds M (oN r.cn) := fun Q q => h0 _ (by
  simp only [hn]
  unfold rO
  walk_at "ev"
  walk_at "fo"
  exact q)
/-! ### take -/
def takeR (r : Rd) (o : List Nat) : D × Rd :=
  if right r.key o = false then (.str "changed", r.cnt .changed) else
  match r.cn with
  | none => (.str "fine", (r.take1 o).cnt .fine)
  | some c =>
    if ((o.getD 1 0 : Nat) - (c : Int)) % 15 = 0 then (.str "again", r.cnt .again) else
    if ((o.getD 1 0 : Nat) - (c : Int)) % 15 = 1 then (.str "fine", (r.take1 o).cnt .fine) else
    if ((o.getD 1 0 : Nat) - (c : Int)) % 15 - 1 ≤ r.most then (.tup [.str "lost", .int (((o.getD 1 0 : Nat) - (c : Int)) % 15 - 1)], (r.take1 o).cnt .lost) else
    (.tup [.str "far", .int (((o.getD 1 0 : Nat) - (c : Int)) % 15 - 1)], { r with cn := some (o.getD 1 0) }.cnt .far)
def sp_Reader_take (C : Addr) : DSpX := fun ds M Q E => ∃ (n m : Nat) (r : Rd) (o : List Nat) (now : Int), ds = [.loc n, .lst (o.map nI), .int now] ∧ RA C M n m r ∧ 2 ≤ o.length ∧ o.length ≤ 8 ∧ octs o ∧ r.key ≤ 65535 ∧
  ((now < r.now ∧ E "DeedWrong" (.int now) M) ∨ (r.now ≤ now ∧ 1 ≤ r.limit ∧ now < r.bell + 300 * r.limit ∧ Q (takeR (onR r now).2 o).1 (wr M n m C (takeR (onR r now).2 o).2)))
theorem len_Reader_take (C : Addr) (ds : List D) (M : MM) (Q : DK) (E : DX) : sp_Reader_take C ds M Q E → ds.length = 3 := fun ⟨_, _, _, _, _, e, _⟩ => e ▸ rfl
theorem use_Reader_take (C : Addr) (ds : List D) (M : MM) (Q : DK) (E : DX) : sp_Reader_take C ds M Q E → u_Reader_take C (sp_Reader_go_on C) (sp_Reader_is_right C) (sp_Reader_counted C) (sp_Reader_good C) (fun _ nm d M' => ExitX M E nm d M') (ends M Q) (st 4 ds) M := fun ⟨n, m, r, o, now, e, h, l2, l8, ho, hk, hh⟩ => by
  subst e
  show u_Reader_take _ _ _ _ _ _ _ [some (.loc n), some (.lst (o.map nI)), some (.int now), none] M
  unfold u_Reader_take
  rcases hh with ⟨hl, er⟩ | ⟨hl, l1, hb, q⟩
  · exact seq_go fun N hN => s_drop (mx_rd1 (v_var rfl) h.hn (v_var (i := 2) (d := .int now) rfl) ⟨n, m, r, now, rfl, h, .inl ⟨hl, .all er⟩⟩)
  · refine seq_go fun N hN => s_drop (mx_rd1 (v_var rfl) h.hn (v_var (i := 2) (d := .int now) rfl) ⟨n, m, r, now, rfl, h, .inr ⟨hl, l1, hb, hN _ _ ?_⟩⟩)
    clear hN N
    have h1 := wr_ra h (onR r now).2
    rw [← wr_wr h (onR r now).2] at q
    have hk1 : (onR r now).2.key ≤ 65535 := hk
    generalize (onR r now).2 = r1 at *
    generalize wr M n m C r1 = M1 at *
    generalize hds : [some (D.loc n), some (D.lst (o.map nI)), some (D.int now), (none : Option D)] = ds
    have x0 : Val (dVar 0) ds M1 (.loc n) := v_var (by rw [← hds]; rfl)
    have x1 : Val (dVar 1) ds M1 (.lst (o.map nI)) := v_var (by rw [← hds]; rfl)
    have tr : Tst (dNot (dTest (dMeth C ns_Reader (sp_Reader_is_right C) (dVar 0) (dCons (dVar 1) dNil)))) ds M1 (!right r1.key o) := t_notB (t_val fun K k => m_rd1 x0 h1.hn x1 ⟨n, m, r1, o, rfl, h1.hn, l2, l8, ho, hk1, k⟩)
    have counted : ∀ {d2 : DEnv} {r2 : Rd} {M2 : MM} (w : Wd) (told : D) (e1 e2 : DE), RA C M2 n m r2 → Val (dVar 0) d2 M2 (.loc n) → Val e1 d2 M2 (.str w.nm) → Val e2 d2 M2 told → Q told (wr M2 n m C (r2.cnt w)) → dRet (dMeth C ns_Reader (sp_Reader_counted C) (dVar 0) (dCons e1 (dCons e2 dNil))) (ends M Q) d2 M2 := fun w told e1 e2 h2 y0 v1 v2 k => s_ret' (m_rd2 y0 h2.hn v1 v2 ⟨n, m, _, w, told, rfl, h2, .all k⟩)
    have good : ∀ {d2 : DEnv} (w : Wd) (told : D) (e1 e2 : DE), Val (dVar 0) d2 M1 (.loc n) → Val (dVar 1) d2 M1 (.lst (o.map nI)) → Val e1 d2 M1 (.str w.nm) → Val e2 d2 M1 told → Q told (wr M1 n m C ((r1.take1 o).cnt w)) → dRet (dMeth C ns_Reader (sp_Reader_good C) (dVar 0) (dCons (dVar 1) (dCons e1 (dCons e2 dNil)))) (ends M Q) d2 M1 := fun w told e1 e2 y0 y1 v1 v2 k => s_ret' (m_rd3 y0 h1.hn y1 v1 v2 ⟨n, m, r1, o, w, told, rfl, h1, l2, .all k⟩)
    unfold takeR at q
    by_cases hr : right r1.key o = false
    · rw [if_pos hr] at q
      rw [hr] at tr
      exact seq_go fun N hN => if1 tr (counted .changed _ _ _ h1 x0 v_c v_c q)
    · rw [if_neg hr] at q
      rw [(by simpa using hr : right r1.key o = true)] at tr
      refine seq_go fun N hN => if0 tr (hN _ _ ?_)
      clear hN N
      have tn : Tst (dTest (dOp dIs (dFld C ns_Reader 4 (dVar 0)) (dC .non))) ds M1 (oN r1.cn).isNon := t_val (v_isN (f_cn x0 h1.hn))
      rcases hc : r1.cn with _ | c
      · rw [hc] at q tn
        exact seq_go fun N hN => if1 tn (good .fine _ _ _ x0 x1 v_c v_c q)
      · rw [hc] at tn
        simp only [hc] at q
        refine seq_go fun N hN => if0 tn (hN _ _ ?_)
        clear hN N
        have i1 : Val (dOp dIx (dVar 1) (dC (.int 1))) ds M1 (nI (o.getD 1 0)) := v_ixS x1 v_c rfl (at_nI (i := 1) (by omega))
        have fc := f_cn x0 h1.hn
        rw [hc] at fc
        refine seq_go fun N hN => asg (v_modI (v_subI i1 fc) (v_addI v_c v_c) (by decide)) (hN _ _ ?_)
        clear hN N
        rw [show ((14 : Int) + 1) = 15 from rfl]
        generalize ((o.getD 1 0 : Nat) - (c : Int)) % 15 = gap at *
        rw [← hds]
        clear x0 x1 tr tn i1 fc
        show dSeq _ _ _ [some (.loc n), some (.lst (o.map nI)), some (.int now), some (.int gap)] M1
        generalize hd2 : [some (D.loc n), some (D.lst (o.map nI)), some (D.int now), some (D.int gap)] = d2
        have x0 : Val (dVar 0) d2 M1 (.loc n) := v_var (by rw [← hd2]; rfl)
        have x1 : Val (dVar 1) d2 M1 (.lst (o.map nI)) := v_var (by rw [← hd2]; rfl)
        have x3 : Val (dVar 3) d2 M1 (.int gap) := v_var (by rw [← hd2]; rfl)
        have t0 := t_val (v_eqI x3 (v_c (d := .int 0)))
        have t1 := t_val (v_eqI x3 (v_c (d := .int 1)))
        have tl := t_val (v_le (v_subI x3 (v_c (d := .int 1))) (f_most x0 h1.hn))
        by_cases c0 : gap = 0
        · rw [if_pos c0] at q
          rw [decide_eq_true c0] at t0
          exact seq_go fun N hN => if1 t0 (counted .again _ _ _ h1 x0 v_c v_c q)
        · rw [if_neg c0] at q
          rw [decide_eq_false c0] at t0
          refine seq_go fun N hN => if0 t0 (hN _ _ ?_)
          clear hN N
          by_cases c1 : gap = 1
          · rw [if_pos c1] at q
            rw [decide_eq_true c1] at t1
            exact seq_go fun N hN => if1 t1 (good .fine _ _ _ x0 x1 v_c v_c q)
          · rw [if_neg c1] at q
            rw [decide_eq_false c1] at t1
            refine seq_go fun N hN => if0 t1 (hN _ _ ?_)
            clear hN N
            by_cases cl : gap - 1 ≤ r1.most
            · rw [if_pos cl] at q
              rw [decide_eq_true cl] at tl
              exact seq_go fun N hN => if1 tl (good .lost _ _ _ x0 x1 v_c (v_tup2 v_c (v_subI x3 v_c)) q)
            · rw [if_neg cl] at q
              rw [decide_eq_false cl] at tl
              refine seq_go fun N hN => if0 tl (hN _ _ ?_)
              clear hN N
              obtain ⟨W, e0, gn, gm, sn, sm, eW, lW⟩ := duo h1.hn h1.hm h1.ne
              have a1 := at_nI (i := 1) (o := o) (by omega)
              simp only [show ((1 : Nat) : Int) = 1 from rfl] at a1
              refine seq_go fun N hN => ?_
              have : dAsg (dOp dIx (dVar 1) (dC (.int 1))) (dgFld C ns_Reader 4 "counter" (dVar 0)) { nx := N, rt := Exit M Q, bk := (ends M Q).bk, ct := (ends M Q).ct } d2 M1 := by
                subst hd2
                rw [e0]
                unfold rO
                walk_at "ev"
                simp only [a1, gn, sn]
                walk_at "ev"
                walk_at "fo"
                refine hN _ _ ?_
                have e1 : W (rO C m { r1 with cn := some (o.getD 1 0) }) (cO r1.c) = wr M1 n m C { r1 with cn := some (o.getD 1 0) } := wr_W h1 eW { r1 with cn := some (o.getD 1 0) }
                have h2 := wr_ra h1 { r1 with cn := some (o.getD 1 0) }
                rw [← wr_wr h1 { r1 with cn := some (o.getD 1 0) }, ← e1] at q
                rw [← e1] at h2
                exact counted .far _ _ _ h2 (v_var rfl) v_c (v_tup2 v_c (v_subI (v_var rfl) v_c)) q
              exact this
/-! ### beginnings, and writers -/
def rd0 (key : Nat) (most limit : Int) : Rd := ⟨key, most, limit, 0, none, none, limit, cn0⟩
def sp_Reader___init__ (C : Addr) : DSp := fun ds M Q => ∃ (n key : Nat) (most limit : Int), ds = [.loc n, nI key, .int most, .int limit] ∧ M[n]? = some (.ins C []) ∧ Q .non (M.set n (rO C M.length (rd0 key most limit)) ++ [cO cn0])
theorem len_Reader___init__ (C : Addr) (ds : List D) (M : MM) (Q : DK) : sp_Reader___init__ C ds M Q → ds.length = 4 := fun ⟨_, _, _, _, e, _⟩ => e ▸ rfl
theorem use_Reader___init__ (C : Addr) (ds : List D) (M : MM) (Q : DK) : sp_Reader___init__ C ds M Q → u_Reader___init__ C (ends M Q) (st 4 ds) M := fun ⟨n, key, most, limit, e, hm, q⟩ => by
  subst e
  show u_Reader___init__ _ _ [some (.loc n), some (nI key), some (.int most), some (.int limit)] M
  have hn : n < M.length := (List.getElem?_eq_some_iff.mp hm).1
  have gset : ∀ mo, (M.set n mo)[n]? = some mo := fun mo => List.getElem?_set_self hn
  have gapp : ∀ mo l, (M.set n mo ++ l)[n]? = some mo := fun mo l => by rw [List.getElem?_append_left (by simpa using hn)]; exact gset mo
  have sapp : ∀ mo l x, (M.set n mo ++ l).set n x = M.set n x ++ l := fun mo l x => by rw [List.set_append_left _ _ (by simpa using hn), List.set_set]
  unfold u_Reader___init__
  walk_at "ev"
  simp only [hm]
  walk_at "ev"
  simp only [gset, List.set_set, gapp, sapp]
  walk_at "ev"
  walk_at "fo"
  refine ⟨by decide, ?_⟩
  walk_at "fo"
  rw [List.length_set]
  exact .all q
abbrev wO (C : Addr) (key c : Nat) : MO := .ins C [("key", nI key), ("counter", nI c)]
def sp_Writer___init__ (C : Addr) : DSp := fun ds M Q => ∃ (n key : Nat), ds = [.loc n, nI key] ∧ M[n]? = some (.ins C []) ∧ Q .non (M.set n (wO C key 0))
theorem len_Writer___init__ (C : Addr) (ds : List D) (M : MM) (Q : DK) : sp_Writer___init__ C ds M Q → ds.length = 2 := fun ⟨_, _, e, _⟩ => e ▸ rfl
theorem use_Writer___init__ (C : Addr) (ds : List D) (M : MM) (Q : DK) : sp_Writer___init__ C ds M Q → u_Writer___init__ C (ends M Q) (st 2 ds) M := fun ⟨n, key, e, hm, q⟩ => by
  subst e
  show u_Writer___init__ _ _ [some (.loc n), some (nI key)] M
  have hn : n < M.length := (List.getElem?_eq_some_iff.mp hm).1
  have gset : ∀ mo, (M.set n mo)[n]? = some mo := fun mo => List.getElem?_set_self hn
  unfold u_Writer___init__
  walk_at "ev"
  simp only [hm]
  walk_at "ev"
  simp only [gset, List.set_set]
  walk_at "ev"
  walk_at "fo"
  exact .all q
def sp_Writer_write (C : Addr) : DSpX := fun ds M Q E => ∃ (n key c : Nat) (x : D), ds = [.loc n, x] ∧ x.pure = true ∧ M[n]? = some (wO C key c) ∧ c ≤ 14 ∧ key ≤ 65535 ∧
  ((isOct x 6 = false ∧ E "Wrong" (.str "data") M) ∨ ∃ d : List Nat, x = .lst (d.map nI) ∧ d.length ≤ 6 ∧ octs d ∧ Q (.lst ((gF d c key).map nI)) (M.set n (wO C key ((c + 1) % 15))))
theorem len_Writer_write (C : Addr) (ds : List D) (M : MM) (Q : DK) (E : DX) : sp_Writer_write C ds M Q E → ds.length = 2 := fun ⟨_, _, _, _, e, _⟩ => e ▸ rfl
theorem ins_wO {C : Addr} {M : MM} {n k c : Nat} (hn : M[n]? = some (wO C k c)) : insOf C ns_Writer (.loc n) M := by
  unfold insOf
  simp only [hn]
  exact ⟨rfl, rfl⟩
theorem use_Writer_write (C : Addr) (ds : List D) (M : MM) (Q : DK) (E : DX) : sp_Writer_write C ds M Q E → u_Writer_write C sp_guarded (fun _ nm d M' => ExitX M E nm d M') (ends M Q) (st 3 ds) M := fun ⟨n, key, c, x, e, px, hm, hc, hk, hh⟩ => by
  subst e
  show u_Writer_write _ _ _ _ [some (.loc n), some x, none] M
  have hn : n < M.length := (List.getElem?_eq_some_iff.mp hm).1
  generalize hds : [some (D.loc n), some x, (none : Option D)] = ds
  have fc : Val (dFld C ns_Writer 1 (dVar 0)) ds M (nI c) := fun Q q => by
    subst hds
    walk_at "ev"
    simp only [hm]
    walk_at "ev"
    walk_at "fo"
    exact q
  have fk : Val (dFld C ns_Writer 0 (dVar 0)) ds M (nI key) := fun Q q => by
    subst hds
    walk_at "ev"
    simp only [hm]
    walk_at "ev"
    walk_at "fo"
    exact q
  have x1 : Val (dVar 1) ds M x := v_var (by rw [← hds]; rfl)
  unfold u_Writer_write
  refine seq_go fun N hN => s_asg' (v_callX3 x1 fc fk ⟨_, _, _, rfl, px, rfl, rfl, ?_⟩)
  rcases hh with ⟨h1, er⟩ | ⟨d, rfl, hl, hd, q⟩
  · exact .inl ⟨h1, .all er⟩
  · refine .inr (.inr (.inr ⟨d, c, key, rfl, rfl, rfl, hl, hd, hc, hk, hN _ _ ?_⟩))
    subst hds
    clear hN N
    refine seq_go fun N hN => ?_
    walk_at "ev"
    simp only [hm]
    walk_at "ev"
    walk_at "fo"
    refine hN _ _ (v_var (i := 2) (d := .lst ((gF d c key).map nI)) rfl _ (.all ?_))
    rw [show ((c : Int) + 1) % 15 = (((c + 1) % 15 : Nat) : Int) by omega]
    exact q
end PR

/-! guarded messages that are bent -/
namespace PR
open PySem L2 AX PB PF PQ
def kk (key : Nat) : List Nat := [key / 256, key % 256]
theorem octs_kk {key : Nat} (h : key ≤ 65535) : octs (kk key) := fun o ho => by
  simp only [kk, List.mem_cons, List.not_mem_nil, or_false] at ho
  rcases ho with rfl | rfl <;> omega
theorem xor_zero {a b : Nat} : a ^^^ b = 0 ↔ a = b := by
  constructor
  · intro h
    have : (a ^^^ b) ^^^ b = 0 ^^^ b := by rw [h]
    rwa [Nat.xor_assoc, Nat.xor_self, Nat.xor_zero, Nat.zero_xor] at this
  · rintro rfl
    exact Nat.xor_self a
theorem fits_syn {key : Nat} {o : List Nat} (h : 2 ≤ o.length) : (gF (o.drop 2) (o.getD 1 0) key = o) ↔ syn o (kk key) = 0 := by
  match o, h with
  | b :: c :: d, _ =>
    show (crc ([c] ++ d ++ [key / 256, key % 256]) :: c :: d = b :: c :: d) ↔ b ^^^ crc ((c :: d) ++ kk key) = 0
    rw [xor_zero]
    constructor
    · intro e
      exact (List.cons.inj e).1.symm
    · intro e
      rw [e]
      rfl
theorem right_syn {key : Nat} {o : List Nat} (h : 2 ≤ o.length) : right key o = (decide (o.getD 1 0 ≤ 14) && decide (syn o (kk key) = 0)) := by
  unfold right
  rw [decide_eq_decide.mpr (fits_syn h)]
theorem syn_gF (d : List Nat) (c key : Nat) : syn (gF d c key) (kk key) = 0 := by
  have := (fits_syn (key := key) (o := gF d c key) (by simp [gF])).mp rfl
  exact this
/-- one octet is another, or one or two bits are -/
def Bent (o b : List Nat) : Prop := (∃ i e, i < o.length ∧ 0 < e ∧ e < 256 ∧ b = PQ.flip o i e) ∨ ∃ p q, p ≠ q ∧ p < 8 * o.length ∧ q < 8 * o.length ∧ b = PQ.flip (PQ.flip o (p / 8) (2 ^ (p % 8))) (q / 8) (2 ^ (q % 8))
theorem flip_len {o : List Nat} {i e : Nat} : (PQ.flip o i e).length = o.length := by unfold PQ.flip; simp
theorem pow_lt8 {a : Nat} (h : a < 8) : 2 ^ a < 256 := by
  have := Nat.pow_lt_pow_right (a := 2) (by decide) h
  simpa using this
theorem flip_octs {o : List Nat} {i e : Nat} (h : octs o) (hi : i < o.length) (he : e < 256) : octs (PQ.flip o i e) := fun x hx => by
  unfold PQ.flip at hx
  rcases List.mem_or_eq_of_mem_set hx with z | z
  · exact h x z
  · rw [z]
    refine xor_lt ?_ he
    rw [List.getD_eq_getElem?_getD, List.getElem?_eq_getElem hi]
    exact h _ (List.getElem_mem hi)
theorem bent_len {o b : List Nat} (h : Bent o b) : b.length = o.length := by
  rcases h with ⟨i, e, _, _, _, rfl⟩ | ⟨p, q, _, _, _, rfl⟩
  · exact flip_len
  · rw [flip_len, flip_len]
theorem bent_octs {o b : List Nat} (h : Bent o b) (ho : octs o) : octs b := by
  rcases h with ⟨i, e, hi, _, he, rfl⟩ | ⟨p, q, _, hp, hq, rfl⟩
  · exact flip_octs ho hi he
  · exact flip_octs (flip_octs ho (by omega) (pow_lt8 (Nat.mod_lt _ (by decide)))) (by rw [flip_len]; omega) (pow_lt8 (Nat.mod_lt _ (by decide)))
theorem flip_flip {o : List Nat} {i a b : Nat} (hi : i < o.length) : PQ.flip (PQ.flip o i a) i b = PQ.flip o i (a ^^^ b) := by
  unfold PQ.flip
  rw [List.set_set]
  congr 1
  rw [List.getD_eq_getElem?_getD, List.getElem?_set_self hi]
  show (o.getD i 0 ^^^ a) ^^^ b = _
  rw [Nat.xor_assoc]
theorem pow_ne {a b : Nat} (h : a ≠ b) : 2 ^ a ≠ 2 ^ b := fun e => h (Nat.pow_right_inj (by decide) |>.mp e)
theorem bent_syn {o b : List Nat} {key : Nat} (h : Bent o b) (ho : octs o) (hk : key ≤ 65535) (h8 : o.length ≤ 8) (h0 : syn o (kk key) = 0) : syn b (kk key) ≠ 0 := by
  have one : ∀ i e, i < o.length → 0 < e → e < 256 → syn (PQ.flip o i e) (kk key) ≠ 0 := fun i e hi e0 he z => by
    rw [syn_flip hi he ho (octs_kk hk), h0, Nat.zero_xor] at z
    have := wgt_zero he z
    omega
  rcases h with ⟨i, e, hi, e0, he, rfl⟩ | ⟨p, q, hpq, hp, hq, rfl⟩
  · exact one i e hi e0 he
  · have m1 : p % 8 < 8 := Nat.mod_lt _ (by decide)
    have m2 : q % 8 < 8 := Nat.mod_lt _ (by decide)
    have i1 : p / 8 < o.length := by omega
    have i2 : q / 8 < o.length := by omega
    by_cases hi : p / 8 = q / 8
    · rw [hi, flip_flip i2]
      have ne : p % 8 ≠ q % 8 := by omega
      refine one _ _ i2 ?_ (xor_lt (pow_lt8 m1) (pow_lt8 m2))
      rcases Nat.eq_zero_or_pos (2 ^ (p % 8) ^^^ 2 ^ (q % 8)) with z | z
      · exact absurd (xor_zero.mp z) (pow_ne ne)
      · exact z
    · rw [syn_flip (by rw [flip_len]; exact i2) (pow_lt8 m2) (flip_octs ho i1 (pow_lt8 m1)) (octs_kk hk), syn_flip i1 (pow_lt8 m1) ho (octs_kk hk), h0, Nat.zero_xor, flip_len]
      have lk : (kk key).length = 2 := rfl
      rw [lk]
      intro z
      have z := xor_zero.mp z
      have w : ∀ i e, i < o.length → ∃ n, wgt (o.length + 2 - 1) i e = sN n e ∧ n < 11 ∧ (i = 0 → n = 0) ∧ (i ≠ 0 → n + i = o.length + 2) := fun i e hi => by
        cases i with
        | zero => exact ⟨0, rfl, by decide, fun _ => rfl, fun h => absurd rfl h⟩
        | succ i => exact ⟨o.length + 2 - 1 - i, rfl, by omega, fun h => absurd h (by omega), fun _ => by omega⟩
      obtain ⟨n1, e1, l1, a1, b1⟩ := w (p / 8) (2 ^ (p % 8)) i1
      obtain ⟨n2, e2, l2, a2, b2⟩ := w (q / 8) (2 ^ (q % 8)) i2
      rw [e1, e2] at z
      refine bits_far l1 l2 (fun en => ?_) m1 m2 z
      by_cases p0 : p / 8 = 0
      · have := a1 p0
        by_cases q0 : q / 8 = 0
        · omega
        · have := b2 q0
          omega
      · have := b1 p0
        by_cases q0 : q / 8 = 0
        · have := a2 q0
          omega
        · have := b2 q0
          omega
theorem bent_not_right {o b : List Nat} {key : Nat} (h : Bent o b) (ho : octs o) (hk : key ≤ 65535) (h8 : o.length ≤ 8) (h2 : 2 ≤ o.length) (h0 : syn o (kk key) = 0) : right key b = false := by
  rw [right_syn (by rw [bent_len h]; exact h2), decide_eq_false (bent_syn h ho hk h8 h0), Bool.and_false]
end PR

/-! readers, when the octets stand in the store -/
namespace PR
open PySem L2 AX PF PQ
open PB hiding u__law_same use__law_same len__law_same none__law_same same_items same_tail b_same
local macro_rules | `(tactic| walk_at "ev") => `(tactic| (simp only [dCallX, dFld, dgFld, dMeth, dMethX, dMake, dMakeX, insOf, putD_nil, putD_zero, putD_succ, dRaise, dExF, wlook_hit, dSeq, dAsg, dNew, dC, dgN, dFor, dList, dVar, dIf, dAnd, dOr, dNot, dTest, dOp, dUn, dCB, a1, a2, lenD, dCons, dNil, dNeg, dEq, dNe, dIx, ixL, dAdd, dSub, dI2, dI2C, dFdiv, dMod, dLt, dLe, dGt, dGe, dDrop, dBM, tyD, appD, dIfS, dNext, dRet, dFrz, dPar, dgTup, dgCons, dgNil, dgSub, dWhile, dBrk, dCnt, dRetN, dTupI, dStrI, dLc, dYes, wipeD, dTru, truD, dNoP, dChain, dPow, dShl, dShr, dBand, dBor, dBxor, dMul, dIn, dNotIn, inG, dgN, dAug, dIAdd, onInts, onBls, dSset, max2D, min2D, sumL, allL, anyL, maxL, minL, sortedL, listN, dRng1, dRng2, dTup, dLst, dIs, dIsNot, D.isNon, intD, absD, listD, seqOf, dSl, dNoP, dPart, slD, dTimes, dAndV, dOrV, dNotV, dCall, dDisp, dPairs, dgSub, dSetI, dkey, keysOf, strD, addL, storeA0, storeA, storeB0, storeB, List.length_append, List.append_assoc, List.cons_append, List.nil_append, Int.reduceEq, Int.reduceLT, Int.reduceLE, Int.reduceNeg, Int.reduceAdd, Int.reduceSub, Int.reducePow,
  List.getElem?_cons_zero, List.getElem?_cons_succ, List.set_cons_zero, List.set_cons_succ, List.length_cons, List.length_nil, List.length_map, Nat.reduceAdd, Bool.not_eq_true, Bool.not_true, Bool.not_false, if_true, if_false, Bool.false_eq_true, decide_eq_true_eq, true_and, and_true, reduceCtorEq, ite_true, ite_false, Nat.zero_le, atI0, atI1, atI2, atI3, atI4, atI5, atI6]))
local macro_rules | `(tactic| walk_at "sd") => `(tactic| first | assumption | decide | omega | (exact size_ok (by omega)) | (exact size_le (by omega)) | (unfold TimesOk; omega) | (rw [sizeLine_eq]; decide))
local macro_rules | `(tactic| walk_at "go") => `(tactic| repeat ((with_reducible refine And.intro ?_ ?_); (· walk_at "sd")))
local macro_rules | `(tactic| walk_at "ft") => `(tactic| repeat (first | assumption | exact fit_int _ _ | exact fit_str _ _ | exact fit_bl _ _ | exact fit_non _ | exact fits_nil | refine fits_cons ?_ ?_ | exact fit_ints _ (by omega) _ | refine fit_lst (by simp only [List.length_cons, List.length_nil]; omega) ?_ | refine fit_tup (by simp only [List.length_cons, List.length_nil]; omega) ?_))
local macro_rules | `(tactic| walk_at "fo") => `(tactic| repeat ((with_reducible refine And.intro ?_ ?_); (· first | exact ⟨rfl, rfl⟩ | exact ⟨rfl, rfl, Nat.le_of_ble_eq_true rfl, Nat.le_of_ble_eq_true rfl⟩ | exact size_le (by decide))))
local macro_rules | `(tactic| walk_at "lv") => `(tactic| (simp only [dCallX, dFld, dgFld, dMeth, dMethX, dMake, dMakeX, insOf, putD_nil, putD_zero, putD_succ, dRaise, dExF, wlook_hit, dSeq, dAsg, dNew, dC, dgN, dFor, dList, dVar, dIf, dAnd, dOr, dNot, dTest, dOp, dUn, dCB, a1, a2, dCons, dNil, dNeg, dEq, dNe, dAdd, dSub, dI2, dI2C, dFdiv, dMod, dLt, dLe, dGt, dGe, dDrop, dBM, tyD, appD, dIfS, dNext, dRet, dFrz, dPar, dgTup, dgCons, dgNil, dgSub, dWhile, dBrk, dCnt, dRetN, dTupI, dStrI, dLc, dYes, wipeD, dTru, truD, dNoP, dChain, dPow, dShl, dShr, dBand, dBor, dBxor, dMul, dIn, dNotIn, inG, dgN, dAug, dIAdd, onInts, onBls, dSset, max2D, min2D, sumL, allL, anyL, maxL, minL, sortedL, dRng1, dRng2, dTup, dLst, dIs, dIsNot, D.isNon, intD, absD, seqOf, dSl, dNoP, dPart, dTimes, dAndV, dOrV, dNotV, dCall, dDisp, dPairs, dgSub, dSetI, dkey, keysOf, strD, addL, storeA0, storeA, storeB0, storeB, List.length_append, List.append_assoc, List.cons_append, List.nil_append, Int.reduceEq, Int.reduceLT, Int.reduceLE, Int.reduceNeg, Int.reduceAdd, Int.reduceSub, Int.reducePow,
  List.getElem?_cons_zero, List.getElem?_cons_succ, List.set_cons_zero, List.set_cons_succ, List.length_cons, List.length_nil, List.length_map, Nat.reduceAdd, Bool.not_eq_true, Bool.not_true, Bool.not_false, if_true, if_false, Bool.false_eq_true, decide_eq_true_eq, true_and, and_true, reduceCtorEq, ite_true, ite_false, Nat.zero_le, atI0, atI1, atI2, atI3, atI4, atI5, atI6]))
/-! octets of a list of the store, too -/
def sp_is_octets2 : DSp := fun ds M Q => ∃ (x : D) (most : Int), ds = [x, .int most] ∧ most ≤ 1000000 ∧ ((x.pure = true ∧ Q (.bl (isOct x most)) M) ∨ ∃ xs, seqOf M x = some xs ∧ D.pureL xs = true ∧ Q (.bl (isOct (.lst xs) most)) M)
theorem len_is_octets2 (ds : List D) (M : MM) (Q : DK) : sp_is_octets2 ds M Q → ds.length = 2 := fun ⟨_, _, e, _⟩ => e ▸ rfl
theorem use_is_octets2 (ds : List D) (M : MM) (Q : DK) : sp_is_octets2 ds M Q → u_is_octets sp_is_number (ends M Q) (st 3 ds) M := fun ⟨x, most, e, hm, h⟩ => by
  subst e
  rcases h with ⟨px, q⟩ | ⟨xs, hx, pl, q⟩
  · exact b_is_octets px hm q
  · show u_is_octets _ _ [some x, some (.int most), none] M
    have fin : ∀ b, isOct (.lst xs) most = b → Exit M Q (.bl b) M := fun b e => .all (e ▸ q)
    obtain ⟨tx, nx, lx, ix⟩ := PS.seq_facts hx
    unfold u_is_octets
    refine andV_yes (PS.isi_ty tx (r := true) (by decide) rfl) ?_
    have ln : Val (dOp dLe (dCB (a1 lenD) (dCons (dVar 0) dNil)) (dVar 1)) [some x, some (.int most), none] M (.bl (decide ((xs.length : Int) ≤ most))) := v_le (v_lenS (v_var rfl) hx) (v_var rfl)
    by_cases hs : (xs.length : Int) ≤ most
    · rw [decide_eq_true hs] at ln
      refine andV_yes ln ?_
      have := v_allM (fun y => isNum y 0 255) xs (v_lcM 2 (fun y => y) (fun y => D.bl (isNum y 0 255)) xs (v_var (i := 0) (d := x) (ds := [some x, some (.int most), none]) (M := M) rfl) (by rw [List.map_id']; exact hx) (size_le (by omega)) (ue := dCall sp_is_number (dCons (dVar 2) (dCons (dC (.int 0)) (dCons (dC (.int 255)) dNil)))) (vs := [2]) fun y hy => v_call3 (v_var rfl) v_c v_c fun K k => ⟨y, 0, 255, rfl, pureL_mem pl y hy, k⟩)
      refine this _ (fin _ ?_)
      simp [isOct, hs]
    · rw [decide_eq_false hs] at ln
      refine andV_no ln (fin _ ?_)
      simp [isOct, hs]
/-- octets, in a list that is no part of the reader -/
structure OX (M : MM) (n m : Nat) (x : D) (o : List Nat) : Prop where
  seq : seqOf M x = some (o.map nI)
  apart : ∀ k, x = .loc k → k ≠ n ∧ k ≠ m
theorem OX.wr {M : MM} {n m : Nat} {x : D} {o : List Nat} {C : Addr} (h : OX M n m x o) (r : Rd) : OX (PR.wr M n m C r) n m x o := ⟨by
  have hs := h.seq
  cases x with
  | loc k =>
    obtain ⟨h1, h2⟩ := h.apart k rfl
    have hm := seq_loc hs
    unfold seqOf PR.wr
    dsimp only
    rw [List.getElem?_set_ne (fun e => h2 e.symm), List.getElem?_set_ne (fun e => h1 e.symm), hm]
  | _ => exact hs, h.apart⟩
theorem OX.lst {M : MM} {n m : Nat} (o : List Nat) : OX M n m (.lst (o.map nI)) o := ⟨rfl, fun _ h => by cases h⟩
def right' (key : Nat) (o : List Nat) : Bool := decide (2 ≤ o.length ∧ o.length ≤ 8) && right key o
def sp_Reader_is_right2 (C : Addr) : DSp := fun ds M Q => ∃ (n m : Nat) (r : Rd) (x : D) (o : List Nat), ds = [.loc n, x] ∧ M[n]? = some (rO C m r) ∧ OX M n m x o ∧ o.length ≤ 1000 ∧ octs o ∧ r.key ≤ 65535 ∧ Q (.bl (right' r.key o)) M
theorem len_Reader_is_right2 (C : Addr) (ds : List D) (M : MM) (Q : DK) : sp_Reader_is_right2 C ds M Q → ds.length = 2 := fun ⟨_, _, _, _, _, e, _⟩ => e ▸ rfl
theorem isOct_len {d : List Nat} {m : Int} (h : octs d) : isOct (.lst (d.map nI)) m = decide ((d.length : Int) ≤ m) := by
  by_cases hl : (d.length : Int) ≤ m
  · rw [isOct_nI hl h, decide_eq_true hl]
  · unfold isOct
    dsimp only
    rw [List.length_map, decide_eq_false hl, Bool.false_and]
theorem pureL_nI (o : List Nat) : D.pureL (o.map nI) = true := pureL_of fun x hx => by
  obtain ⟨a, _, rfl⟩ := List.mem_map.mp hx
  simp [D.pure]
theorem res_seq {M : MM} {x : D} {xs : List D} (h : seqOf M x = some xs) : x.res M = .lst xs := by
  cases x with
  | lst ys => cases h; rfl
  | loc n =>
    have hm := seq_loc h
    unfold D.res
    simp only [hm]
  | _ => simp [seqOf] at h
theorem use_Reader_is_right2 (C : Addr) (ds : List D) (M : MM) (Q : DK) : sp_Reader_is_right2 C ds M Q → u_Reader_is_right C sp_is_octets2 sp_guarded (ends M Q) (st 2 ds) M := fun ⟨n, m, r, x, o, e, hn, hx, lo, ho, hk, q⟩ => by
  subst e
  show u_Reader_is_right _ _ _ _ [some (.loc n), some x] M
  generalize hds : [some (D.loc n), some x] = ds
  have x1 : Val (dVar 1) ds M x := v_var (by rw [← hds]; rfl)
  have key : Val (dFld C ns_Reader 0 (dVar 0)) ds M (nI r.key) := fun Q q => by
    subst hds
    walk_at "ev"
    simp only [hn]
    unfold rO
    walk_at "ev"
    walk_at "fo"
    exact q
  have t1 : Tst (dNot (dTest (dCall sp_is_octets2 (dCons (dVar 1) (dCons (dC (.int 8)) dNil))))) ds M (!decide ((o.length : Int) ≤ 8)) := t_notB (t_val (v_call2 x1 v_c fun K k => ⟨_, 8, rfl, by decide, .inr ⟨o.map nI, hx.seq, pureL_nI o, by rw [isOct_len ho]; exact k⟩⟩))
  have t2 : Tst (dTest (dOp dLt (dCB (a1 lenD) (dCons (dVar 1) dNil)) (dC (.int 2)))) ds M (decide ((o.length : Int) < 2)) := t_val (v_lt (v_lenN x1 hx.seq (by simp)) v_c)
  unfold u_Reader_is_right
  unfold right' at q
  by_cases h8 : (o.length : Int) ≤ 8
  · rw [decide_eq_true h8] at t1
    by_cases h2 : (o.length : Int) < 2
    · rw [decide_eq_true h2] at t2
      refine seq_go fun N hN => if1 (t_or (a := false) t1 fun _ => t_or (b := false) t2 fun h => by cases h) (s_ret' (v_c _ (.all ?_)))
      rw [decide_eq_false (by omega), Bool.false_and] at q
      exact q
    · rw [decide_eq_false h2] at t2
      rw [decide_eq_true (by omega), Bool.true_and] at q
      have i1 : Val (dOp dIx (dVar 1) (dC (.int 1))) ds M (nI (o.getD 1 0)) := v_ixS x1 v_c hx.seq (at_nI (i := 1) (by omega))
      have t3 := t_val (v_gt i1 (v_c (d := .int 14)))
      have e0 : ∀ c : Nat, right r.key o = (decide (o.getD 1 0 ≤ 14) && decide (gF (o.drop 2) (o.getD 1 0) r.key = o)) := fun _ => rfl
      by_cases h : o.getD 1 0 ≤ 14
      · rw [decide_eq_false (by omega)] at t3
        refine seq_go fun N hN => if0 (t_or (a := false) t1 fun _ => t_or (a := false) t2 fun _ => t3) (hN _ _ (s_ret' ?_))
        have sl : Val (dSl (dVar 1) (dPart (dC (.int 2))) dNoP) ds M (.lst ((o.drop 2).map nI)) := v_slL x1 hx.seq (fun Q q => v_c _ q) (fun Q q => q) (by
          rw [show (some 2 : Option Int) = some ((2 : Nat) : Int) from rfl, cut_drop, List.map_drop])
        have g : Val (dCallX sp_guarded wd0 (dCons (dSl (dVar 1) (dPart (dC (.int 2))) dNoP) (dCons (dOp dIx (dVar 1) (dC (.int 1))) (dCons (dFld C ns_Reader 0 (dVar 0)) dNil)))) ds M (.lst ((gF (o.drop 2) (o.getD 1 0) r.key).map nI)) := fun K k => v_callX3 sl i1 key ⟨_, _, _, rfl, (fit_oct (by rw [List.length_drop]; omega)).p, rfl, rfl, .inr (.inr (.inr ⟨o.drop 2, o.getD 1 0, r.key, rfl, rfl, rfl, by rw [List.length_drop]; omega, fun y hy => ho y (List.mem_of_mem_drop hy), h, hk, k⟩))⟩
        have f1 := fit_oct (d := gF (o.drop 2) (o.getD 1 0) r.key) (by simp [gF]; omega)
        refine v_op (x := .lst ((gF (o.drop 2) (o.getD 1 0) r.key).map nI)) (y := x) (d := .bl (D.eqv (.lst ((gF (o.drop 2) (o.getD 1 0) r.key).map nI)) (.lst (o.map nI)))) g x1 (fun K k => ?_) _ (.all ?_)
        · show eqG _ x M fun b => K (.bl b) M
          unfold eqG
          rw [res_seq hx.seq]
          exact ⟨f1.p, (fit_oct (by omega)).p, Nat.le_trans f1.d (by decide), k⟩
        · rw [eqv_nIs]
          rw [e0 0, decide_eq_true h, Bool.true_and] at q
          exact q
      · rw [decide_eq_true (by omega)] at t3
        refine seq_go fun N hN => if1 (t_or (a := false) t1 fun _ => t_or (a := false) t2 fun _ => t3) (s_ret' (v_c _ (.all ?_)))
        rw [e0 0, decide_eq_false h, Bool.false_and] at q
        exact q
  · rw [decide_eq_false h8] at t1
    refine seq_go fun N hN => if1 (t_or (b := false) t1 fun h => by cases h) (s_ret' (v_c _ (.all ?_)))
    rw [decide_eq_false (by omega), Bool.false_and] at q
    exact q
def sp_Reader_good2 (C : Addr) : DSp := fun ds M Q => ∃ (n m : Nat) (r : Rd) (x : D) (o : List Nat) (w : Wd) (told : D), ds = [.loc n, x, .str w.nm, told] ∧ RA C M n m r ∧ OX M n m x o ∧ 2 ≤ o.length ∧ Q told (wr M n m C ((r.take1 o).cnt w))
theorem len_Reader_good2 (C : Addr) (ds : List D) (M : MM) (Q : DK) : sp_Reader_good2 C ds M Q → ds.length = 4 := fun ⟨_, _, _, _, _, _, _, e, _⟩ => e ▸ rfl
theorem OX.cases {M : MM} {n m : Nat} {x : D} {o : List Nat} (h : OX M n m x o) : x = .lst (o.map nI) ∨ ∃ k, x = .loc k ∧ k ≠ n ∧ k ≠ m ∧ M[k]? = some (.lst (o.map nI)) := by
  have hs := h.seq
  cases x with
  | lst ys => cases hs; exact .inl rfl
  | loc k =>
    obtain ⟨h1, h2⟩ := h.apart k rfl
    exact .inr ⟨k, rfl, h1, h2, seq_loc hs⟩
  | _ => simp [seqOf] at hs
theorem use_Reader_good2 (C : Addr) (ds : List D) (M : MM) (Q : DK) : sp_Reader_good2 C ds M Q → u_Reader_good C (sp_Reader_counted C) (ends M Q) (st 4 ds) M := fun ⟨n, m, r, x, o, w, told, e, h, hx, ho, q⟩ => by
  rcases hx.cases with rfl | ⟨k, rfl, kn, km, hk⟩
  · exact use_Reader_good C ds M Q ⟨n, m, r, o, w, told, e, h, ho, q⟩
  subst e
  show u_Reader_good _ _ _ [some (.loc n), some (.loc k), some (.str w.nm), some told] M
  obtain ⟨W, e0, gn, gm, sn, sm, eW, lW⟩ := duo h.hn h.hm h.ne
  have gk : ∀ a b, (W a b)[k]? = some (.lst (o.map nI)) := fun a b => by
    rw [eW, List.getElem?_set_ne (fun e => km e.symm), List.getElem?_set_ne (fun e => kn e.symm)]
    exact hk
  have a1 := at_nI (i := 1) ho
  have c2 : cutD (o.map nI) (some 2) none = (o.drop 2).map nI := by
    rw [show (some 2 : Option Int) = some ((2 : Nat) : Int) from rfl, cut_drop, List.map_drop]
  unfold u_Reader_good
  rw [e0]
  unfold rO
  walk_at "ev"
  simp only [show ((1 : Nat) : Int) = 1 from rfl] at a1
  simp only [a1, gn, sn, gk]
  walk_at "ev"
  simp only [a1, c2, gn, sn, gk]
  walk_at "fo"
  refine ⟨n, m, r.take1 o, w, told, rfl, ⟨gn _ _, gm _ _, h.ne⟩, .all ?_⟩
  have e1 := wr_W h eW (r.take1 o)
  have e2 : wr (W (rO C m (r.take1 o)) (cO (r.take1 o).c)) n m C ((r.take1 o).cnt w) = wr M n m C ((r.take1 o).cnt w) := by
    rw [e1, wr_wr h]
  rw [← e2] at q
  exact q
def takeR' (r : Rd) (o : List Nat) : D × Rd := if right' r.key o = true then takeR r o else (.str "changed", r.cnt .changed)
def sp_Reader_take2 (C : Addr) : DSpX := fun ds M Q E => ∃ (n m : Nat) (r : Rd) (x : D) (o : List Nat) (now : Int), ds = [.loc n, x, .int now] ∧ RA C M n m r ∧ OX M n m x o ∧ o.length ≤ 1000 ∧ octs o ∧ r.key ≤ 65535 ∧
  ((now < r.now ∧ E "DeedWrong" (.int now) M) ∨ (r.now ≤ now ∧ 1 ≤ r.limit ∧ now < r.bell + 300 * r.limit ∧ Q (takeR' (onR r now).2 o).1 (wr M n m C (takeR' (onR r now).2 o).2)))
theorem len_Reader_take2 (C : Addr) (ds : List D) (M : MM) (Q : DK) (E : DX) : sp_Reader_take2 C ds M Q E → ds.length = 3 := fun ⟨_, _, _, _, _, _, e, _⟩ => e ▸ rfl
theorem use_Reader_take2 (C : Addr) (ds : List D) (M : MM) (Q : DK) (E : DX) : sp_Reader_take2 C ds M Q E → u_Reader_take C (sp_Reader_go_on C) (sp_Reader_is_right2 C) (sp_Reader_counted C) (sp_Reader_good2 C) (fun _ nm d M' => ExitX M E nm d M') (ends M Q) (st 4 ds) M := fun ⟨n, m, r, x, o, now, e, h, hx, lo, ho, hk, hh⟩ => by
  subst e
  show u_Reader_take _ _ _ _ _ _ _ [some (.loc n), some x, some (.int now), none] M
  unfold u_Reader_take
  rcases hh with ⟨hl, er⟩ | ⟨hl, l1, hb, q⟩
  · exact seq_go fun N hN => s_drop (mx_rd1 (v_var rfl) h.hn (v_var (i := 2) (d := .int now) rfl) ⟨n, m, r, now, rfl, h, .inl ⟨hl, .all er⟩⟩)
  · refine seq_go fun N hN => s_drop (mx_rd1 (v_var rfl) h.hn (v_var (i := 2) (d := .int now) rfl) ⟨n, m, r, now, rfl, h, .inr ⟨hl, l1, hb, hN _ _ ?_⟩⟩)
    clear hN N
    have h1 := wr_ra h (onR r now).2
    have hx1 := hx.wr (C := C) (onR r now).2
    rw [← wr_wr h (onR r now).2] at q
    have hk1 : (onR r now).2.key ≤ 65535 := hk
    generalize (onR r now).2 = r1 at *
    generalize wr M n m C r1 = M1 at *
    generalize hds : [some (D.loc n), some x, some (D.int now), (none : Option D)] = ds
    have x0 : Val (dVar 0) ds M1 (.loc n) := v_var (by rw [← hds]; rfl)
    have x1 : Val (dVar 1) ds M1 x := v_var (by rw [← hds]; rfl)
    have tr : Tst (dNot (dTest (dMeth C ns_Reader (sp_Reader_is_right2 C) (dVar 0) (dCons (dVar 1) dNil)))) ds M1 (!right' r1.key o) := t_notB (t_val fun K k => m_rd1 x0 h1.hn x1 ⟨n, m, r1, x, o, rfl, h1.hn, hx1, lo, ho, hk1, k⟩)
    have counted : ∀ {d2 : DEnv} {r2 : Rd} {M2 : MM} (w : Wd) (told : D) (e1 e2 : DE), RA C M2 n m r2 → Val (dVar 0) d2 M2 (.loc n) → Val e1 d2 M2 (.str w.nm) → Val e2 d2 M2 told → Q told (wr M2 n m C (r2.cnt w)) → dRet (dMeth C ns_Reader (sp_Reader_counted C) (dVar 0) (dCons e1 (dCons e2 dNil))) (ends M Q) d2 M2 := fun w told e1 e2 h2 y0 v1 v2 k => s_ret' (m_rd2 y0 h2.hn v1 v2 ⟨n, m, _, w, told, rfl, h2, .all k⟩)
    unfold takeR' at q
    by_cases hr' : right' r1.key o = true
    case neg =>
      rw [if_neg hr'] at q
      rw [(by simpa using hr' : right' r1.key o = false)] at tr
      exact seq_go fun N hN => if1 tr (counted .changed _ _ _ h1 x0 v_c v_c q)
    rw [if_pos hr'] at q
    rw [hr'] at tr
    have hr2 : 2 ≤ o.length ∧ right r1.key o = true := by
      unfold right' at hr'
      rw [Bool.and_eq_true, decide_eq_true_eq] at hr'
      exact ⟨hr'.1.1, hr'.2⟩
    obtain ⟨l2, hrr⟩ := hr2
    have good : ∀ {d2 : DEnv} (w : Wd) (told : D) (e1 e2 : DE), Val (dVar 0) d2 M1 (.loc n) → Val (dVar 1) d2 M1 x → Val e1 d2 M1 (.str w.nm) → Val e2 d2 M1 told → Q told (wr M1 n m C ((r1.take1 o).cnt w)) → dRet (dMeth C ns_Reader (sp_Reader_good2 C) (dVar 0) (dCons (dVar 1) (dCons e1 (dCons e2 dNil)))) (ends M Q) d2 M1 := fun w told e1 e2 y0 y1 v1 v2 k => s_ret' (m_rd3 y0 h1.hn y1 v1 v2 ⟨n, m, r1, x, o, w, told, rfl, h1, hx1, l2, .all k⟩)
    unfold takeR at q
    · rw [if_neg (by rw [hrr]; decide)] at q
      refine seq_go fun N hN => if0 tr (hN _ _ ?_)
      clear hN N
      have tn : Tst (dTest (dOp dIs (dFld C ns_Reader 4 (dVar 0)) (dC .non))) ds M1 (oN r1.cn).isNon := t_val (v_isN (f_cn x0 h1.hn))
      rcases hc : r1.cn with _ | c
      · rw [hc] at q tn
        exact seq_go fun N hN => if1 tn (good .fine _ _ _ x0 x1 v_c v_c q)
      · rw [hc] at tn
        simp only [hc] at q
        refine seq_go fun N hN => if0 tn (hN _ _ ?_)
        clear hN N
        have i1 : Val (dOp dIx (dVar 1) (dC (.int 1))) ds M1 (nI (o.getD 1 0)) := v_ixS x1 v_c hx1.seq (at_nI (i := 1) (by omega))
        have fc := f_cn x0 h1.hn
        rw [hc] at fc
        refine seq_go fun N hN => asg (v_modI (v_subI i1 fc) (v_addI v_c v_c) (by decide)) (hN _ _ ?_)
        clear hN N
        rw [show ((14 : Int) + 1) = 15 from rfl]
        generalize ((o.getD 1 0 : Nat) - (c : Int)) % 15 = gap at *
        rw [← hds]
        clear x0 x1 tr tn i1 fc
        show dSeq _ _ _ [some (.loc n), some x, some (.int now), some (.int gap)] M1
        generalize hd2 : [some (D.loc n), some x, some (D.int now), some (D.int gap)] = d2
        have x0 : Val (dVar 0) d2 M1 (.loc n) := v_var (by rw [← hd2]; rfl)
        have x1 : Val (dVar 1) d2 M1 x := v_var (by rw [← hd2]; rfl)
        have x3 : Val (dVar 3) d2 M1 (.int gap) := v_var (by rw [← hd2]; rfl)
        have t0 := t_val (v_eqI x3 (v_c (d := .int 0)))
        have t1 := t_val (v_eqI x3 (v_c (d := .int 1)))
        have tl := t_val (v_le (v_subI x3 (v_c (d := .int 1))) (f_most x0 h1.hn))
        by_cases c0 : gap = 0
        · rw [if_pos c0] at q
          rw [decide_eq_true c0] at t0
          exact seq_go fun N hN => if1 t0 (counted .again _ _ _ h1 x0 v_c v_c q)
        · rw [if_neg c0] at q
          rw [decide_eq_false c0] at t0
          refine seq_go fun N hN => if0 t0 (hN _ _ ?_)
          clear hN N
          by_cases c1 : gap = 1
          · rw [if_pos c1] at q
            rw [decide_eq_true c1] at t1
            exact seq_go fun N hN => if1 t1 (good .fine _ _ _ x0 x1 v_c v_c q)
          · rw [if_neg c1] at q
            rw [decide_eq_false c1] at t1
            refine seq_go fun N hN => if0 t1 (hN _ _ ?_)
            clear hN N
            by_cases cl : gap - 1 ≤ r1.most
            · rw [if_pos cl] at q
              rw [decide_eq_true cl] at tl
              exact seq_go fun N hN => if1 tl (good .lost _ _ _ x0 x1 v_c (v_tup2 v_c (v_subI x3 v_c)) q)
            · rw [if_neg cl] at q
              rw [decide_eq_false cl] at tl
              refine seq_go fun N hN => if0 tl (hN _ _ ?_)
              clear hN N
              obtain ⟨W, e0, gn, gm, sn, sm, eW, lW⟩ := duo h1.hn h1.hm h1.ne
              have a1 := at_nI (i := 1) (o := o) (by omega)
              simp only [show ((1 : Nat) : Int) = 1 from rfl] at a1
              refine seq_go fun N hN => ?_
              have : dAsg (dOp dIx (dVar 1) (dC (.int 1))) (dgFld C ns_Reader 4 "counter" (dVar 0)) { nx := N, rt := Exit M Q, bk := (ends M Q).bk, ct := (ends M Q).ct } d2 M1 := by
                subst hd2
                rcases hx1.cases with rfl | ⟨kx, rfl, kn, km, hkx⟩
                · rw [e0]
                  unfold rO
                  walk_at "ev"
                  simp only [a1, gn, sn]
                  walk_at "ev"
                  walk_at "fo"
                  refine hN _ _ ?_
                  have e1 : W (rO C m { r1 with cn := some (o.getD 1 0) }) (cO r1.c) = wr M1 n m C { r1 with cn := some (o.getD 1 0) } := wr_W h1 eW { r1 with cn := some (o.getD 1 0) }
                  have h2 := wr_ra h1 { r1 with cn := some (o.getD 1 0) }
                  rw [← wr_wr h1 { r1 with cn := some (o.getD 1 0) }, ← e1] at q
                  rw [← e1] at h2
                  exact counted .far _ _ _ h2 (v_var rfl) v_c (v_tup2 v_c (v_subI (v_var rfl) v_c)) q
                · have gk : ∀ a b, (W a b)[kx]? = some (.lst (o.map nI)) := fun a b => by
                    rw [eW, List.getElem?_set_ne (fun e => km e.symm), List.getElem?_set_ne (fun e => kn e.symm)]
                    exact hkx
                  rw [e0]
                  unfold rO
                  walk_at "ev"
                  simp only [a1, gn, sn, gk]
                  walk_at "ev"
                  walk_at "fo"
                  refine hN _ _ ?_
                  have e1 : W (rO C m { r1 with cn := some (o.getD 1 0) }) (cO r1.c) = wr M1 n m C { r1 with cn := some (o.getD 1 0) } := wr_W h1 eW { r1 with cn := some (o.getD 1 0) }
                  have h2 := wr_ra h1 { r1 with cn := some (o.getD 1 0) }
                  rw [← wr_wr h1 { r1 with cn := some (o.getD 1 0) }, ← e1] at q
                  rw [← e1] at h2
                  exact counted .far _ _ _ h2 (v_var rfl) v_c (v_tup2 v_c (v_subI (v_var rfl) v_c)) q
              exact this
end PR

namespace K81
open PySem L2 AX PF PQ PS
open PB hiding u__law_same use__law_same len__law_same none__law_same same_items same_tail b_same
abbrev ns_Reader : List Str := ["key", "most", "limit", "now", "counter", "last", "bell", "counts"]
def u_Reader___init__ (cl : CL) : DS :=
  (dSeq (dAsg (dVar 1) (dgFld (cl 0) ns_Reader 0 "key" (dVar 0)))
  (dSeq (dAsg (dVar 2) (dgFld (cl 0) ns_Reader 1 "most" (dVar 0)))
  (dSeq (dAsg (dVar 3) (dgFld (cl 0) ns_Reader 2 "limit" (dVar 0)))
  (dSeq (dAsg (dC (.int 0)) (dgFld (cl 0) ns_Reader 3 "now" (dVar 0)))
  (dSeq (dAsg (dC .non) (dgFld (cl 0) ns_Reader 4 "counter" (dVar 0)))
  (dSeq (dAsg (dC .non) (dgFld (cl 0) ns_Reader 5 "last" (dVar 0)))
  (dSeq (dAsg (dVar 3) (dgFld (cl 0) ns_Reader 6 "bell" (dVar 0)))
  (dAsg (dDisp (((dC (.str "fine")), (dC (.int 0))) :: (((dC (.str "lost")), (dC (.int 0))) :: (((dC (.str "again")), (dC (.int 0))) :: (((dC (.str "far")), (dC (.int 0))) :: (((dC (.str "changed")), (dC (.int 0))) :: (((dC (.str "late")), (dC (.int 0))) :: []))))))) (dgFld (cl 0) ns_Reader 7 "counts" (dVar 0))))))))))

def u_Reader_due (cl : CL) : DS :=
  (dRet (dFld (cl 0) ns_Reader 6 (dVar 0)))

def u_Reader_go_on (cl : CL) (wd : DWX) : DS :=
  (dSeq (dIfS (dTest (dOp dLt (dVar 1) (dFld (cl 0) ns_Reader 3 (dVar 0))))
  (dRaise "DeedWrong" wd (dVar 1)) dNext)
  (dSeq (dAsg (dVar 1) (dgFld (cl 0) ns_Reader 3 "now" (dVar 0)))
  (dSeq (dAsg (dNew dNil) (dgN 2))
  (dSeq (dWhile (dTest (dOp dLe (dFld (cl 0) ns_Reader 6 (dVar 0)) (dVar 1)))
  (dSeq (dDrop (dBM "list" appD (dVar 2) (dCons (dFld (cl 0) ns_Reader 6 (dVar 0)) dNil)))
  (dSeq (dFldAug (cl 0) ns_Reader 6 "bell" (dVar 0) (dFld (cl 0) ns_Reader 2 (dVar 0)) dIAdd)
  (dSubAug (dFld (cl 0) ns_Reader 7 (dVar 0)) (dC (.str "late")) (dC (.int 1)) dIAdd))))
  (dRet (dFrz (dVar 2)))))))

def u_Reader_is_right (cl : CL) (sp_is_octets : DSp) (sp_guarded : DSpX) : DS :=
  (dSeq (dIfS (dOr (dNot (dTest (dCall sp_is_octets (dCons (dVar 1) (dCons (dC (.int 8)) dNil))))) (dOr (dTest (dOp dLt (dCB (a1 lenD) (dCons (dVar 1) dNil)) (dC (.int 2)))) (dTest (dOp dGt (dOp dIx (dVar 1) (dC (.int 1))) (dC (.int 14))))))
  (dRet (dC (.bl false))) dNext)
  (dRet (dOp dEq (dCallX sp_guarded wd0 (dCons (dSl (dVar 1) (dPart (dC (.int 2))) dNoP) (dCons (dOp dIx (dVar 1) (dC (.int 1))) (dCons (dFld (cl 0) ns_Reader 0 (dVar 0)) dNil)))) (dVar 1))))

def u_Reader_take (cl : CL) (sp_Reader_go_on : DSpX) (sp_Reader_is_right : DSp) (sp_Reader_counted : DSp) (sp_Reader_good : DSp) (wd : DWX) : DS :=
  (dSeq (dDrop (dMethX (cl 0) ns_Reader sp_Reader_go_on wd (dVar 0) (dCons (dVar 2) dNil)))
  (dSeq (dIfS (dNot (dTest (dMeth (cl 0) ns_Reader sp_Reader_is_right (dVar 0) (dCons (dVar 1) dNil))))
  (dRet (dMeth (cl 0) ns_Reader sp_Reader_counted (dVar 0) (dCons (dC (.str "changed")) (dCons (dC (.str "changed")) dNil)))) dNext)
  (dSeq (dIfS (dTest (dOp dIs (dFld (cl 0) ns_Reader 4 (dVar 0)) (dC .non)))
  (dRet (dMeth (cl 0) ns_Reader sp_Reader_good (dVar 0) (dCons (dVar 1) (dCons (dC (.str "fine")) (dCons (dC (.str "fine")) dNil))))) dNext)
  (dSeq (dAsg (dOp dMod (dOp dSub (dOp dIx (dVar 1) (dC (.int 1))) (dFld (cl 0) ns_Reader 4 (dVar 0))) (dOp dAdd (dC (.int 14)) (dC (.int 1)))) (dgN 3))
  (dSeq (dIfS (dTest (dOp dEq (dVar 3) (dC (.int 0))))
  (dRet (dMeth (cl 0) ns_Reader sp_Reader_counted (dVar 0) (dCons (dC (.str "again")) (dCons (dC (.str "again")) dNil)))) dNext)
  (dSeq (dIfS (dTest (dOp dEq (dVar 3) (dC (.int 1))))
  (dRet (dMeth (cl 0) ns_Reader sp_Reader_good (dVar 0) (dCons (dVar 1) (dCons (dC (.str "fine")) (dCons (dC (.str "fine")) dNil))))) dNext)
  (dSeq (dIfS (dTest (dOp dLe (dOp dSub (dVar 3) (dC (.int 1))) (dFld (cl 0) ns_Reader 1 (dVar 0))))
  (dRet (dMeth (cl 0) ns_Reader sp_Reader_good (dVar 0) (dCons (dVar 1) (dCons (dC (.str "lost")) (dCons (dTup (dCons (dC (.str "lost")) (dCons (dOp dSub (dVar 3) (dC (.int 1))) dNil))) dNil))))) dNext)
  (dSeq (dAsg (dOp dIx (dVar 1) (dC (.int 1))) (dgFld (cl 0) ns_Reader 4 "counter" (dVar 0)))
  (dRet (dMeth (cl 0) ns_Reader sp_Reader_counted (dVar 0) (dCons (dC (.str "far")) (dCons (dTup (dCons (dC (.str "far")) (dCons (dOp dSub (dVar 3) (dC (.int 1))) dNil))) dNil))))))))))))

def u_Reader_good (cl : CL) (sp_Reader_counted : DSp) : DS :=
  (dSeq (dAsg (dOp dIx (dVar 1) (dC (.int 1))) (dgFld (cl 0) ns_Reader 4 "counter" (dVar 0)))
  (dSeq (dAsg (dSl (dVar 1) (dPart (dC (.int 2))) dNoP) (dgFld (cl 0) ns_Reader 5 "last" (dVar 0)))
  (dSeq (dAsg (dOp dAdd (dFld (cl 0) ns_Reader 3 (dVar 0)) (dFld (cl 0) ns_Reader 2 (dVar 0))) (dgFld (cl 0) ns_Reader 6 "bell" (dVar 0)))
  (dRet (dMeth (cl 0) ns_Reader sp_Reader_counted (dVar 0) (dCons (dVar 2) (dCons (dVar 3) dNil)))))))

def u_Reader_counted (cl : CL) : DS :=
  (dSeq (dSubAug (dFld (cl 0) ns_Reader 7 (dVar 0)) (dVar 1) (dC (.int 1)) dIAdd)
  (dRet (dVar 2)))

def u_Reader_data (cl : CL) : DS :=
  (dRet (dIf (dTest (dOp dIs (dFld (cl 0) ns_Reader 5 (dVar 0)) (dC .non))) (dC .non) (dCB (a1 listN) (dCons (dFld (cl 0) ns_Reader 5 (dVar 0)) dNil))))

def u_Reader_tally (cl : CL) : DS :=
  (dRet (dCB (a1 dictD) (dCons (dFld (cl 0) ns_Reader 7 (dVar 0)) dNil)))

def u__law_new_reader (cl : CL) : DS :=
  (dSeq (dAsg (dDisp (((dC (.str "fine")), (dC (.int 0))) :: (((dC (.str "lost")), (dC (.int 0))) :: (((dC (.str "again")), (dC (.int 0))) :: (((dC (.str "far")), (dC (.int 0))) :: (((dC (.str "changed")), (dC (.int 0))) :: (((dC (.str "late")), (dC (.int 0))) :: []))))))) (dgN 3))
  (dRet (dDisp (((dC (.str "key")), (dVar 0)) :: (((dC (.str "most")), (dVar 1)) :: (((dC (.str "limit")), (dVar 2)) :: (((dC (.str "now")), (dC (.int 0))) :: (((dC (.str "counter")), (dC .non)) :: (((dC (.str "data")), (dC .non)) :: (((dC (.str "bell")), (dVar 2)) :: (((dC (.str "counts")), (dVar 3)) :: [])))))))))))

def u__law_reader_on (cl : CL) : DS :=
  (dSeq (dAsg (dVar 1) (dgSub (dVar 0) (dC (.str "now"))))
  (dSeq (dAsg (dNew dNil) (dgN 2))
  (dSeq (dWhile (dTest (dOp dLe (dOp dIx (dVar 0) (dC (.str "bell"))) (dVar 1)))
  (dSeq (dDrop (dBM "list" appD (dVar 2) (dCons (dOp dIx (dVar 0) (dC (.str "bell"))) dNil)))
  (dAsg (dOp dAdd (dOp dIx (dVar 0) (dC (.str "bell"))) (dOp dIx (dVar 0) (dC (.str "limit")))) (dgSub (dVar 0) (dC (.str "bell"))))))
  (dSeq (dAsg (dOp dAdd (dOp dIx (dOp dIx (dVar 0) (dC (.str "counts"))) (dC (.str "late"))) (dCB (a1 lenD) (dCons (dVar 2) dNil))) (dgSub (dOp dIx (dVar 0) (dC (.str "counts"))) (dC (.str "late"))))
  (dRet (dFrz (dVar 2)))))))

def u__law_reader_takes (cl : CL) (sp__law_reader_on : DSp) (sp__law_guarded : DSp) : DS :=
  (dSeq (dDrop (dCall sp__law_reader_on (dCons (dVar 0) (dCons (dVar 2) dNil))))
  (dSeq (dAsg (dAndV (dChain dLt dLt (dC (.int 1)) (dCB (a1 lenD) (dCons (dVar 1) dNil)) (dC (.int 9))) (dAndV (dCB allL (dCons (dLc (dList (dVar 1)) (dgN 4) dYes (dChain dLe dLt (dC (.int 0)) (dVar 4) (dC (.int 256))) [4]) dNil)) (dOp dLt (dOp dIx (dVar 1) (dC (.int 1))) (dC (.int 15))))) (dgN 3))
  (dSeq (dAsg (dTup (dCons (dC (.str "changed")) (dCons (dC (.str "changed")) dNil))) (dgTup 2 (dgCons (dgN 5) (dgCons (dgN 6) dgNil))))
  (dSeq (dIfS (dAnd (dTest (dVar 3)) (dTest (dOp dEq (dCall sp__law_guarded (dCons (dSl (dVar 1) (dPart (dC (.int 2))) dNoP) (dCons (dOp dIx (dVar 1) (dC (.int 1))) (dCons (dOp dIx (dVar 0) (dC (.str "key"))) dNil)))) (dVar 1))))
  (dSeq (dAsg (dIf (dTest (dOp dIs (dOp dIx (dVar 0) (dC (.str "counter"))) (dC .non))) (dC (.int 0)) (dOp dMod (dCB (a1 intD) (dCons (dOp dSub (dOp dSub (dOp dIx (dVar 1) (dC (.int 1))) (dOp dIx (dVar 0) (dC (.str "counter")))) (dC (.int 1))) dNil)) (dC (.int 15)))) (dgN 7))
  (dIfS (dAnd (dTest (dOp dIsNot (dOp dIx (dVar 0) (dC (.str "counter"))) (dC .non))) (dTest (dOp dEq (dVar 7) (dC (.int 14)))))
  (dAsg (dTup (dCons (dC (.str "again")) (dCons (dC (.str "again")) dNil))) (dgTup 2 (dgCons (dgN 5) (dgCons (dgN 6) dgNil)))) (dSeq (dAsg (dIf (dTest (dOp dEq (dVar 7) (dC (.int 0)))) (dC (.str "fine")) (dIf (dTest (dOp dLe (dVar 7) (dOp dIx (dVar 0) (dC (.str "most"))))) (dC (.str "lost")) (dC (.str "far")))) (dgN 5))
  (dSeq (dAsg (dIf (dTest (dOp dEq (dVar 7) (dC (.int 0)))) (dVar 5) (dTup (dCons (dVar 5) (dCons (dVar 7) dNil)))) (dgN 6))
  (dSeq (dAsg (dOp dIx (dVar 1) (dC (.int 1))) (dgSub (dVar 0) (dC (.str "counter"))))
  (dIfS (dTest (dOp dNe (dVar 5) (dC (.str "far"))))
  (dAsg (dTup (dCons (dSl (dVar 1) (dPart (dC (.int 2))) dNoP) (dCons (dOp dAdd (dVar 2) (dOp dIx (dVar 0) (dC (.str "limit")))) dNil))) (dgTup 2 (dgCons (dgSub (dVar 0) (dC (.str "data"))) (dgCons (dgSub (dVar 0) (dC (.str "bell"))) dgNil)))) dNext)))))) dNext)
  (dSeq (dAsg (dOp dAdd (dOp dIx (dOp dIx (dVar 0) (dC (.str "counts"))) (dVar 5)) (dC (.int 1))) (dgSub (dOp dIx (dVar 0) (dC (.str "counts"))) (dVar 5)))
  (dRet (dVar 6)))))))

def u__law_called (cl : CL) (sp_Reader_take : DSpX) (sp_Reader_go_on : DSpX) : DS :=
  (dTryAs 4 (wlook [("DeedWrong", true), ("Wrong", false)]) (fun wd1 =>
  (dRet (dTup (dCons (dC (.str "told")) (dCons (dIf (dTest (dOp dEq (dVar 1) (dC (.str "take")))) (dMethX (cl 0) ns_Reader sp_Reader_take wd1 (dVar 0) (dCons (dVar 2) (dCons (dVar 3) dNil))) (dMethX (cl 0) ns_Reader sp_Reader_go_on wd1 (dVar 0) (dCons (dVar 3) dNil))) dNil))))) (fun a1 nm1 at1 =>
  (dRet (dTup (dCons (dC (.str "wrong")) (dCons (dExF 4 a1 at1) dNil))))) wd0)

def u_law (cl : CL) (sp__law_draws : DSp) (sp__law_draw : DSp) (sp__law_new_reader : DSp) (sp_Reader___init__ : DSp) (sp__law_guarded : DSp) (sp__law_reader_takes : DSp) (sp__law_called : DSp) (sp__law_reader_on : DSp) (sp_Reader_tally : DSp) (sp_Reader_due : DSp) (sp_Reader_data : DSp) (sp__law_same : DSp) : DS :=
  (dSeq (dAsg (dCall sp__law_draws (dCons (dVar 0) dNil)) (dgN 1))
  (dSeq (dFor (dRng1 (dCons (dC (.int 2)) dNil)) (dgN 2)
  (dSeq (dPar3 3 4 5 (dCons (dCall sp__law_draw (dCons (dVar 1) (dCons (dC (.int 65536)) dNil))) (dCons (dOp dIx (dLst (dCons (dC (.int 0)) (dCons (dC (.int 1)) (dCons (dC (.int 2)) (dCons (dC (.int 5)) (dCons (dC (.int 13)) (dCons (dC (.int 14)) dNil))))))) (dCall sp__law_draw (dCons (dVar 1) (dCons (dC (.int 6)) dNil)))) (dCons (dOp dIx (dLst (dCons (dC (.int 1)) (dCons (dC (.int 10)) (dCons (dC (.int 100)) dNil)))) (dCall sp__law_draw (dCons (dVar 1) (dCons (dC (.int 3)) dNil)))) dNil))))
  (dSeq (dPar 6 7 (dCons (dMake (cl 0) sp_Reader___init__ (dCons (dVar 3) (dCons (dVar 4) (dCons (dVar 5) dNil)))) (dCons (dCall sp__law_new_reader (dCons (dVar 3) (dCons (dVar 4) (dCons (dVar 5) dNil)))) dNil)))
  (dFor (dRng1 (dCons (dOp dAdd (dC (.int 20)) (dCall sp__law_draw (dCons (dVar 1) (dCons (dC (.int 41)) dNil)))) dNil)) (dgN 8)
  (dSeq (dAsg (dOp dAdd (dOp dIx (dVar 7) (dC (.str "now"))) (dOp dIx (dLst (dCons (dC (.int 0)) (dCons (dC (.int 0)) (dCons (dC (.int 1)) (dCons (dOp dSub (dVar 5) (dC (.int 1))) (dCons (dVar 5) (dCons (dOp dAdd (dVar 5) (dC (.int 1))) (dCons (dOp dTimes (dC (.int 3)) (dVar 5)) dNil)))))))) (dCall sp__law_draw (dCons (dVar 1) (dCons (dC (.int 7)) dNil))))) (dgN 9))
  (dSeq (dAsg (dCall sp__law_draw (dCons (dVar 1) (dCons (dC (.int 10)) dNil))) (dgN 10))
  (dSeq (dIfS (dTest (dOp dLt (dVar 10) (dC (.int 8))))
  (dSeq (dAsg (dIf (dTest (dOp dIs (dOp dIx (dVar 7) (dC (.str "counter"))) (dC .non))) (dC (.int 0)) (dOp dIx (dVar 7) (dC (.str "counter")))) (dgN 11))
  (dSeq (dAsg (dOp dMod (dCB (a1 intD) (dCons (dOp dAdd (dVar 11) (dOp dIx (dLst (dCons (dC (.int 1)) (dCons (dC (.int 1)) (dCons (dC (.int 1)) (dCons (dC (.int 1)) (dCons (dC (.int 0)) (dCons (dC (.int 2)) (dCons (dC (.int 3)) (dCons (dC (.int 14)) (dCons (dCall sp__law_draw (dCons (dVar 1) (dCons (dC (.int 15)) dNil))) dNil)))))))))) (dCall sp__law_draw (dCons (dVar 1) (dCons (dC (.int 9)) dNil))))) dNil)) (dC (.int 15))) (dgN 12))
  (dSeq (dAsg (dLc (dRng1 (dCons (dCall sp__law_draw (dCons (dVar 1) (dCons (dC (.int 7)) dNil))) dNil)) (dgN 14) dYes (dCall sp__law_draw (dCons (dVar 1) (dCons (dC (.int 256)) dNil))) [14]) (dgN 13))
  (dSeq (dAsg (dCall sp__law_guarded (dCons (dVar 13) (dCons (dVar 12) (dCons (dIf (dTest (dOp dGt (dCall sp__law_draw (dCons (dVar 1) (dCons (dC (.int 8)) dNil))) (dC (.int 0)))) (dVar 3) (dOp dBxor (dVar 3) (dC (.int 1)))) dNil)))) (dgN 15))
  (dSeq (dAsg (dIf (dTest (dOp dGt (dCall sp__law_draw (dCons (dVar 1) (dCons (dC (.int 8)) dNil))) (dC (.int 0)))) (dVar 15) (dOp dIx (dLst (dCons (dLst dNil) (dCons (dLst (dCons (dC (.int 1)) dNil)) (dCons (dLst (dCons (dC (.int 0)) (dCons (dC (.int 15)) dNil))) (dCons (dSl (dVar 15) dNoP (dPart (dUn dNeg (dC (.int 1))))) (dCons (dOp dAdd (dVar 15) (dLst (dCons (dC (.int 0)) dNil))) (dCons (dOp dAdd (dLst (dCons (dC (.int 5)) dNil)) (dSl (dVar 15) (dPart (dC (.int 1))) dNoP)) dNil))))))) (dCall sp__law_draw (dCons (dVar 1) (dCons (dC (.int 6)) dNil))))) (dgN 15))
  (dSeq (dAsg (dCB (a1 listN) (dCons (dVar 15) dNil)) (dgN 16))
  (dSeq (dPar 17 18 (dCons (dCall sp__law_called (dCons (dVar 6) (dCons (dC (.str "take")) (dCons (dVar 16) (dCons (dVar 9) dNil))))) (dCons (dTup (dCons (dC (.str "told")) (dCons (dCall sp__law_reader_takes (dCons (dVar 7) (dCons (dVar 15) (dCons (dVar 9) dNil)))) dNil))) dNil)))
  (dDrop (dBM "list" appD (dVar 16) (dCons (dC (.int 3)) dNil)))))))))) (dIfS (dTest (dOp dEq (dVar 10) (dC (.int 8))))
  (dPar 17 18 (dCons (dCall sp__law_called (dCons (dVar 6) (dCons (dC (.str "go")) (dCons (dC .non) (dCons (dVar 9) dNil))))) (dCons (dTup (dCons (dC (.str "told")) (dCons (dCall sp__law_reader_on (dCons (dVar 7) (dCons (dVar 9) dNil))) dNil))) dNil))) (dSeq (dAsg (dOp dSub (dOp dIx (dVar 7) (dC (.str "now"))) (dC (.int 1))) (dgN 19))
  (dPar 17 18 (dCons (dCall sp__law_called (dCons (dVar 6) (dCons (dOp dIx (dLst (dCons (dC (.str "take")) (dCons (dC (.str "go")) dNil))) (dCall sp__law_draw (dCons (dVar 1) (dCons (dC (.int 2)) dNil)))) (dCons (dLst dNil) (dCons (dVar 19) dNil))))) (dCons (dTup (dCons (dC (.str "wrong")) (dCons (dVar 19) dNil))) dNil))))))
  (dSeq (dAsg (dLst (dCons (dVar 17) (dCons (dMeth (cl 0) ns_Reader sp_Reader_data (dVar 6) dNil) (dCons (dMeth (cl 0) ns_Reader sp_Reader_due (dVar 6) dNil) (dCons (dMeth (cl 0) ns_Reader sp_Reader_tally (dVar 6) dNil) dNil))))) (dgN 20))
  (dSeq (dIfS (dNot (dTest (dCall sp__law_same (dCons (dVar 20) (dCons (dLst (dCons (dVar 18) (dCons (dOp dIx (dVar 7) (dC (.str "data"))) (dCons (dOp dIx (dVar 7) (dC (.str "bell"))) (dCons (dOp dIx (dVar 7) (dC (.str "counts"))) dNil))))) dNil)))))
  (dRet (dC (.bl false))) dNext)
  (dSeq (dAsg (dUn dNeg (dC (.int 1))) (dgSub (dOp dIx (dVar 20) (dC (.int 3))) (dC (.str "fine"))))
  (dIfS (dTest (dOp dIsNot (dOp dIx (dVar 20) (dC (.int 1))) (dC .non)))
  (dDrop (dBM "list" appD (dOp dIx (dVar 20) (dC (.int 1))) (dCons (dC (.int 7)) dNil))) dNext)))))))))))
  (dRet (dC (.bl true)))))
end K81

namespace K81
open PySem L2 AX PF PQ PS
open PB hiding u__law_same use__law_same len__law_same none__law_same same_items same_tail b_same
local macro_rules | `(tactic| walk_at "ev") => `(tactic| (simp only [dCallX, dFld, dgFld, dMeth, dMethX, dMake, dMakeX, insOf, putD_nil, putD_zero, putD_succ, dRaise, dExF, wlook_hit, dSeq, dAsg, dNew, dC, dgN, dFor, dList, dVar, dIf, dAnd, dOr, dNot, dTest, dOp, dUn, dCB, a1, a2, lenD, dCons, dNil, dNeg, dEq, dNe, dIx, ixL, dAdd, dSub, dI2, dI2C, dFdiv, dMod, dLt, dLe, dGt, dGe, dDrop, dBM, tyD, appD, dIfS, dNext, dRet, dFrz, dPar, dgTup, dgCons, dgNil, dgSub, dWhile, dBrk, dCnt, dRetN, dTupI, dStrI, dLc, dYes, wipeD, dTru, truD, dNoP, dChain, dPow, dShl, dShr, dBand, dBor, dBxor, dMul, dIn, dNotIn, inG, dgN, dAug, dIAdd, onInts, onBls, dSset, max2D, min2D, sumL, allL, anyL, maxL, minL, sortedL, listN, dRng1, dRng2, dTup, dLst, dIs, dIsNot, D.isNon, intD, absD, listD, seqOf, dSl, dNoP, dPart, slD, dTimes, dAndV, dOrV, dNotV, dCall, dDisp, dPairs, dgSub, dSetI, dkey, keysOf, strD, addL, storeA0, storeA, storeB0, storeB, List.length_append, List.append_assoc, List.cons_append, List.nil_append, Int.reduceEq, Int.reduceLT, Int.reduceLE, Int.reduceNeg, Int.reduceAdd, Int.reduceSub, Int.reducePow,
  List.getElem?_cons_zero, List.getElem?_cons_succ, List.set_cons_zero, List.set_cons_succ, List.length_cons, List.length_nil, List.length_map, Nat.reduceAdd, Bool.not_eq_true, Bool.not_true, Bool.not_false, if_true, if_false, Bool.false_eq_true, decide_eq_true_eq, true_and, and_true, reduceCtorEq, ite_true, ite_false, Nat.zero_le, atI0, atI1, atI2, atI3, atI4, atI5, atI6]))
local macro_rules | `(tactic| walk_at "sd") => `(tactic| first | assumption | decide | omega | (exact size_ok (by omega)) | (exact size_le (by omega)) | (unfold TimesOk; omega) | (rw [sizeLine_eq]; decide))
local macro_rules | `(tactic| walk_at "go") => `(tactic| repeat ((with_reducible refine And.intro ?_ ?_); (· walk_at "sd")))
local macro_rules | `(tactic| walk_at "ft") => `(tactic| repeat (first | assumption | exact fit_int _ _ | exact fit_str _ _ | exact fit_bl _ _ | exact fit_non _ | exact fits_nil | refine fits_cons ?_ ?_ | exact fit_ints _ (by omega) _ | refine fit_lst (by simp only [List.length_cons, List.length_nil]; omega) ?_ | refine fit_tup (by simp only [List.length_cons, List.length_nil]; omega) ?_))
local macro_rules | `(tactic| walk_at "fo") => `(tactic| repeat ((with_reducible refine And.intro ?_ ?_); (· first | exact ⟨rfl, rfl⟩ | exact ⟨rfl, rfl, Nat.le_of_ble_eq_true rfl, Nat.le_of_ble_eq_true rfl⟩ | exact size_le (by decide))))
local macro_rules | `(tactic| walk_at "lv") => `(tactic| (simp only [dCallX, dFld, dgFld, dMeth, dMethX, dMake, dMakeX, insOf, putD_nil, putD_zero, putD_succ, dRaise, dExF, wlook_hit, dSeq, dAsg, dNew, dC, dgN, dFor, dList, dVar, dIf, dAnd, dOr, dNot, dTest, dOp, dUn, dCB, a1, a2, dCons, dNil, dNeg, dEq, dNe, dAdd, dSub, dI2, dI2C, dFdiv, dMod, dLt, dLe, dGt, dGe, dDrop, dBM, tyD, appD, dIfS, dNext, dRet, dFrz, dPar, dgTup, dgCons, dgNil, dgSub, dWhile, dBrk, dCnt, dRetN, dTupI, dStrI, dLc, dYes, wipeD, dTru, truD, dNoP, dChain, dPow, dShl, dShr, dBand, dBor, dBxor, dMul, dIn, dNotIn, inG, dgN, dAug, dIAdd, onInts, onBls, dSset, max2D, min2D, sumL, allL, anyL, maxL, minL, sortedL, dRng1, dRng2, dTup, dLst, dIs, dIsNot, D.isNon, intD, absD, seqOf, dSl, dNoP, dPart, dTimes, dAndV, dOrV, dNotV, dCall, dDisp, dPairs, dgSub, dSetI, dkey, keysOf, strD, addL, storeA0, storeA, storeB0, storeB, List.length_append, List.append_assoc, List.cons_append, List.nil_append, Int.reduceEq, Int.reduceLT, Int.reduceLE, Int.reduceNeg, Int.reduceAdd, Int.reduceSub, Int.reducePow,
  List.getElem?_cons_zero, List.getElem?_cons_succ, List.set_cons_zero, List.set_cons_succ, List.length_cons, List.length_nil, List.length_map, Nat.reduceAdd, Bool.not_eq_true, Bool.not_true, Bool.not_false, if_true, if_false, Bool.false_eq_true, decide_eq_true_eq, true_and, and_true, reduceCtorEq, ite_true, ite_false, Nat.zero_le, atI0, atI1, atI2, atI3, atI4, atI5, atI6]))
/-! octets: of a list of the store, too -/
def sp_is_octets : DSp := PR.sp_is_octets2
theorem len_is_octets (ds : List D) (M : MM) (Q : DK) : sp_is_octets ds M Q → ds.length = 2 := PR.len_is_octets2 ds M Q
theorem use_is_octets (ds : List D) (M : MM) (Q : DK) : sp_is_octets ds M Q → u_is_octets sp_is_number (ends M Q) (st 3 ds) M := PR.use_is_octets2 ds M Q
theorem use_guarded (ds : List D) (M : MM) (Q : DK) (E : DX) : sp_guarded ds M Q E → u_guarded PR.sp_is_octets2 sp_is_number sp_check_of (fun _ nm d M' => ExitX M E nm d M') (ends M Q) (st 3 ds) M := fun ⟨x, y, z, e, px, py, pz, h⟩ => by
  subst e
  show u_guarded _ _ _ _ _ [some x, some y, some z] M
  unfold u_guarded
  have t1 : Tst (dNot (dTest (dCall PR.sp_is_octets2 (dCons (dVar 0) (dCons (dC (.int 6)) dNil))))) [some x, some y, some z] M (!isOct x 6) := t_notB (t_val (v_call2 (v_var rfl) v_c fun K k => ⟨x, 6, rfl, by decide, .inl ⟨px, k⟩⟩))
  have t2 : Tst (dNot (dTest (dCall sp_is_number (dCons (dVar 1) (dCons (dC (.int 0)) (dCons (dC (.int 14)) dNil)))))) [some x, some y, some z] M (!isNum y 0 14) := t_notB (t_val (v_call3 (v_var rfl) v_c v_c fun K k => ⟨y, 0, 14, rfl, py, k⟩))
  have t3 : Tst (dNot (dTest (dCall sp_is_number (dCons (dVar 2) (dCons (dC (.int 0)) (dCons (dC (.int 65535)) dNil)))))) [some x, some y, some z] M (!isNum z 0 65535) := t_notB (t_val (v_call3 (v_var rfl) v_c v_c fun K k => ⟨z, 0, 65535, rfl, pz, k⟩))
  rcases h with ⟨h1, er⟩ | ⟨h1, h2, er⟩ | ⟨h1, h2, h3, er⟩ | ⟨d, c, k, rfl, rfl, rfl, hl, hd, hc, hk, q⟩
  · rw [h1] at t1
    exact seq_go fun N hN => if1 t1 (v_c _ (.all er))
  · rw [h1] at t1
    rw [h2] at t2
    exact seq_go fun N hN => if0 t1 (hN _ _ (seq_go fun N hN => if1 t2 (v_c _ (.all er))))
  · rw [h1] at t1
    rw [h2] at t2
    rw [h3] at t3
    exact seq_go fun N hN => if0 t1 (hN _ _ (seq_go fun N hN => if0 t2 (hN _ _ (seq_go fun N hN => if1 t3 (v_c _ (.all er))))))
  · rw [isOct_nI (by omega) hd] at t1
    rw [isNum_nI (by omega)] at t2 t3
    refine seq_go fun N hN => if0 t1 (hN _ _ (seq_go fun N hN => if0 t2 (hN _ _ (seq_go fun N hN => if0 t3 (hN _ _ ?_)))))
    have a1 : Val (dOp dShr (dVar 2) (dC (.int 8))) [some (.lst (d.map nI)), some (nI c), some (nI k)] M (nI (k / 256)) := v_op (x := nI k) (y := .int 8) (v_var rfl) v_c fun K k' => ⟨show (0 : Int) ≤ 8 by decide, by
      show K (.int ((k : Int) / 2 ^ (8 : Int).toNat)) M
      rw [show ((k : Int) / 2 ^ (8 : Int).toNat) = ((k / 256 : Nat) : Int) by
        rw [show (2 : Int) ^ (8 : Int).toNat = 256 by decide]
        omega]
      exact k'⟩
    have a2 : Val (dOp dBand (dVar 2) (dC (.int 255))) [some (.lst (d.map nI)), some (nI c), some (nI k)] M (nI (k % 256)) := v_op (v_var rfl) v_c fun K k' => by
      have : Builtin.bitAnd (k : Int) 255 = ((k % 256 : Nat) : Int) := by
        have := Bits.bitAnd_mask (x := (k : Int)) 8 (by omega)
        rw [show (2 : Int) ^ 8 - 1 = 255 by decide] at this
        rw [this]
        omega
      show K (.int (Builtin.bitAnd (k : Int) 255)) M
      rw [this]
      exact k'
    have body : Val (dOp dAdd (dOp dAdd (dLst (dCons (dVar 1) dNil)) (dVar 0)) (dLst (dCons (dOp dShr (dVar 2) (dC (.int 8))) (dCons (dOp dBand (dVar 2) (dC (.int 255))) dNil)))) [some (.lst (d.map nI)), some (nI c), some (nI k)] M (.lst (([c] ++ d ++ [k / 256, k % 256]).map nI)) := by
      have := v_addL (v_addL (v_lst1 (v_var (i := 1) (d := nI c) (ds := [some (.lst (d.map nI)), some (nI c), some (nI k)]) (M := M) rfl)) (v_var (i := 0) (d := .lst (d.map nI)) rfl) rfl rfl (by simp; omega)) (v_lst2 a1 a2) rfl rfl (by simp; omega)
      rw [List.map_append, List.map_append]
      exact this
    have ck := v_call1 (sp := sp_check_of) (d := nI (crc ([c] ++ d ++ [k / 256, k % 256]))) body fun K k' => ⟨_, _, rfl, rfl, octs_body hd hc hk, k'⟩
    have fin := v_addL (v_lst2 ck (v_var (i := 1) (d := nI c) rfl)) (v_var (i := 0) (d := .lst (d.map nI)) rfl) rfl rfl (by simp; omega)
    exact fin _ (.all q)
def sp_Reader_counted (cl : CL) : DSp := PR.sp_Reader_counted (cl 0)
theorem len_Reader_counted (cl : CL) (ds : List D) (M : MM) (Q : DK) : sp_Reader_counted cl ds M Q → ds.length = 3 := PR.len_Reader_counted _ ds M Q
theorem use_Reader_counted (cl : CL) (ds : List D) (M : MM) (Q : DK) : sp_Reader_counted cl ds M Q → u_Reader_counted cl (ends M Q) (st 3 ds) M := PR.use_Reader_counted (cl 0) ds M Q
def sp_Reader_good (cl : CL) : DSp := PR.sp_Reader_good2 (cl 0)
theorem len_Reader_good (cl : CL) (ds : List D) (M : MM) (Q : DK) : sp_Reader_good cl ds M Q → ds.length = 4 := PR.len_Reader_good2 _ ds M Q
theorem use_Reader_good (cl : CL) (ds : List D) (M : MM) (Q : DK) : sp_Reader_good cl ds M Q → u_Reader_good cl (sp_Reader_counted cl) (ends M Q) (st 4 ds) M := PR.use_Reader_good2 (cl 0) ds M Q
def sp_Reader_go_on (cl : CL) : DSpX := PR.sp_Reader_go_on (cl 0)
theorem len_Reader_go_on (cl : CL) (ds : List D) (M : MM) (Q : DK) (E : DX) : sp_Reader_go_on cl ds M Q E → ds.length = 2 := PR.len_Reader_go_on _ ds M Q E
theorem use_Reader_go_on (cl : CL) (ds : List D) (M : MM) (Q : DK) (E : DX) : sp_Reader_go_on cl ds M Q E → u_Reader_go_on cl (fun _ nm d M' => ExitX M E nm d M') (ends M Q) (st 3 ds) M := PR.use_Reader_go_on (cl 0) ds M Q E
def sp_Reader_is_right (cl : CL) : DSp := PR.sp_Reader_is_right2 (cl 0)
theorem len_Reader_is_right (cl : CL) (ds : List D) (M : MM) (Q : DK) : sp_Reader_is_right cl ds M Q → ds.length = 2 := PR.len_Reader_is_right2 _ ds M Q
theorem use_Reader_is_right (cl : CL) (ds : List D) (M : MM) (Q : DK) : sp_Reader_is_right cl ds M Q → u_Reader_is_right cl sp_is_octets sp_guarded (ends M Q) (st 2 ds) M := PR.use_Reader_is_right2 (cl 0) ds M Q
def sp_Reader_take (cl : CL) : DSpX := PR.sp_Reader_take2 (cl 0)
theorem len_Reader_take (cl : CL) (ds : List D) (M : MM) (Q : DK) (E : DX) : sp_Reader_take cl ds M Q E → ds.length = 3 := PR.len_Reader_take2 _ ds M Q E
theorem use_Reader_take (cl : CL) (ds : List D) (M : MM) (Q : DK) (E : DX) : sp_Reader_take cl ds M Q E → u_Reader_take cl (sp_Reader_go_on cl) (sp_Reader_is_right cl) (sp_Reader_counted cl) (sp_Reader_good cl) (fun _ nm d M' => ExitX M E nm d M') (ends M Q) (st 4 ds) M := PR.use_Reader_take2 (cl 0) ds M Q E
def sp_Reader___init__ (cl : CL) : DSp := PR.sp_Reader___init__ (cl 0)
theorem len_Reader___init__ (cl : CL) (ds : List D) (M : MM) (Q : DK) : sp_Reader___init__ cl ds M Q → ds.length = 4 := PR.len_Reader___init__ _ ds M Q
theorem use_Reader___init__ (cl : CL) (ds : List D) (M : MM) (Q : DK) : sp_Reader___init__ cl ds M Q → u_Reader___init__ cl (ends M Q) (st 4 ds) M := PR.use_Reader___init__ (cl 0) ds M Q
def sp_Reader_data (cl : CL) : DSp := fun ds M Q => ∃ (n m : Nat) (r : PR.Rd), ds = [.loc n] ∧ M[n]? = some (PR.rO (cl 0) m r) ∧ ((r.last = none ∧ Q .non M) ∨ ∃ l, r.last = some l ∧ Q (.loc M.length) (M ++ [.lst (l.map nI)]))
theorem len_Reader_data (cl : CL) (ds : List D) (M : MM) (Q : DK) : sp_Reader_data cl ds M Q → ds.length = 1 := fun ⟨_, _, _, e, _⟩ => e ▸ rfl
theorem use_Reader_data (cl : CL) (ds : List D) (M : MM) (Q : DK) : sp_Reader_data cl ds M Q → u_Reader_data cl (ends M Q) (st 1 ds) M := fun ⟨n, m, r, e, hn, q⟩ => by
  subst e
  show u_Reader_data _ _ [some (.loc n)] M
  have fl : Val (dFld (cl 0) ns_Reader 5 (dVar 0)) [some (.loc n)] M (PR.oL r.last) := fun Q q => by
    walk_at "ev"
    simp only [hn]
    unfold PR.rO
    walk_at "ev"
    walk_at "fo"
    exact q
  unfold u_Reader_data
  have t := t_val (v_isN fl)
  refine s_ret' ?_
  rcases q with ⟨hl, q⟩ | ⟨l, hl, q⟩
  · rw [hl] at t fl
    refine t _ ?_
    rw [if_pos (show (PR.oL none).isNon = true from rfl)]
    exact v_c _ (.all q)
  · rw [hl] at t fl
    refine t _ ?_
    rw [if_neg (show ¬ (PR.oL (some l)).isNon = true from by simp [PR.oL, D.isNon])]
    simp only [dCB, a1, dCons, dNil]
    refine fl _ ?_
    walk_at "ev"
    exact .all q
def sp_Reader_due (cl : CL) : DSp := fun ds M Q => ∃ (n m : Nat) (r : PR.Rd), ds = [.loc n] ∧ M[n]? = some (PR.rO (cl 0) m r) ∧ Q (.int r.bell) M
theorem len_Reader_due (cl : CL) (ds : List D) (M : MM) (Q : DK) : sp_Reader_due cl ds M Q → ds.length = 1 := fun ⟨_, _, _, e, _⟩ => e ▸ rfl
theorem use_Reader_due (cl : CL) (ds : List D) (M : MM) (Q : DK) : sp_Reader_due cl ds M Q → u_Reader_due cl (ends M Q) (st 1 ds) M := fun ⟨n, m, r, e, hn, q⟩ => by
  subst e
  show u_Reader_due _ _ [some (.loc n)] M
  unfold u_Reader_due
  walk_at "ev"
  simp only [hn]
  unfold PR.rO
  walk_at "ev"
  walk_at "fo"
  exact .all q
def sp_Reader_tally (cl : CL) : DSp := fun ds M Q => ∃ (n m : Nat) (r : PR.Rd), ds = [.loc n] ∧ PR.RA (cl 0) M n m r ∧ Q (.loc M.length) (M ++ [PR.cO r.c])
theorem len_Reader_tally (cl : CL) (ds : List D) (M : MM) (Q : DK) : sp_Reader_tally cl ds M Q → ds.length = 1 := fun ⟨_, _, _, e, _⟩ => e ▸ rfl
theorem use_Reader_tally (cl : CL) (ds : List D) (M : MM) (Q : DK) : sp_Reader_tally cl ds M Q → u_Reader_tally cl (ends M Q) (st 1 ds) M := fun ⟨n, m, r, e, h, q⟩ => by
  subst e
  show u_Reader_tally _ _ [some (.loc n)] M
  unfold u_Reader_tally
  walk_at "ev"
  simp only [h.hn]
  unfold PR.rO
  walk_at "ev"
  walk_at "fo"
  unfold dictD
  simp only [h.hm]
  exact .all q
end K81

namespace K81
open PySem L2 AX PF PQ PS
open PB hiding u__law_same use__law_same len__law_same none__law_same same_items same_tail b_same
local macro_rules | `(tactic| walk_at "ev") => `(tactic| (simp only [dCallX, dFld, dgFld, dMeth, dMethX, dMake, dMakeX, insOf, putD_nil, putD_zero, putD_succ, dRaise, dExF, wlook_hit, dSeq, dAsg, dNew, dC, dgN, dFor, dList, dVar, dIf, dAnd, dOr, dNot, dTest, dOp, dUn, dCB, a1, a2, lenD, dCons, dNil, dNeg, dEq, dNe, dIx, ixL, dAdd, dSub, dI2, dI2C, dFdiv, dMod, dLt, dLe, dGt, dGe, dDrop, dBM, tyD, appD, dIfS, dNext, dRet, dFrz, dPar, dgTup, dgCons, dgNil, dgSub, dWhile, dBrk, dCnt, dRetN, dTupI, dStrI, dLc, dYes, wipeD, dTru, truD, dNoP, dChain, dPow, dShl, dShr, dBand, dBor, dBxor, dMul, dIn, dNotIn, inG, dgN, dAug, dIAdd, onInts, onBls, dSset, max2D, min2D, sumL, allL, anyL, maxL, minL, sortedL, listN, dRng1, dRng2, dTup, dLst, dIs, dIsNot, D.isNon, intD, absD, listD, seqOf, dSl, dNoP, dPart, slD, dTimes, dAndV, dOrV, dNotV, dCall, dDisp, dPairs, dgSub, dSetI, dkey, keysOf, strD, addL, storeA0, storeA, storeB0, storeB, List.length_append, List.append_assoc, List.cons_append, List.nil_append, Int.reduceEq, Int.reduceLT, Int.reduceLE, Int.reduceNeg, Int.reduceAdd, Int.reduceSub, Int.reducePow,
  List.getElem?_cons_zero, List.getElem?_cons_succ, List.set_cons_zero, List.set_cons_succ, List.length_cons, List.length_nil, List.length_map, Nat.reduceAdd, Bool.not_eq_true, Bool.not_true, Bool.not_false, if_true, if_false, Bool.false_eq_true, decide_eq_true_eq, true_and, and_true, reduceCtorEq, ite_true, ite_false, Nat.zero_le, atI0, atI1, atI2, atI3, atI4, atI5, atI6]))
local macro_rules | `(tactic| walk_at "sd") => `(tactic| first | assumption | decide | omega | (exact size_ok (by omega)) | (exact size_le (by omega)) | (unfold TimesOk; omega) | (rw [sizeLine_eq]; decide))
local macro_rules | `(tactic| walk_at "go") => `(tactic| repeat ((with_reducible refine And.intro ?_ ?_); (· walk_at "sd")))
local macro_rules | `(tactic| walk_at "ft") => `(tactic| repeat (first | assumption | exact fit_int _ _ | exact fit_str _ _ | exact fit_bl _ _ | exact fit_non _ | exact fits_nil | refine fits_cons ?_ ?_ | exact fit_ints _ (by omega) _ | refine fit_lst (by simp only [List.length_cons, List.length_nil]; omega) ?_ | refine fit_tup (by simp only [List.length_cons, List.length_nil]; omega) ?_))
local macro_rules | `(tactic| walk_at "fo") => `(tactic| repeat ((with_reducible refine And.intro ?_ ?_); (· first | exact ⟨rfl, rfl⟩ | exact ⟨rfl, rfl, Nat.le_of_ble_eq_true rfl, Nat.le_of_ble_eq_true rfl⟩ | exact size_le (by decide))))
local macro_rules | `(tactic| walk_at "lv") => `(tactic| (simp only [dCallX, dFld, dgFld, dMeth, dMethX, dMake, dMakeX, insOf, putD_nil, putD_zero, putD_succ, dRaise, dExF, wlook_hit, dSeq, dAsg, dNew, dC, dgN, dFor, dList, dVar, dIf, dAnd, dOr, dNot, dTest, dOp, dUn, dCB, a1, a2, dCons, dNil, dNeg, dEq, dNe, dAdd, dSub, dI2, dI2C, dFdiv, dMod, dLt, dLe, dGt, dGe, dDrop, dBM, tyD, appD, dIfS, dNext, dRet, dFrz, dPar, dgTup, dgCons, dgNil, dgSub, dWhile, dBrk, dCnt, dRetN, dTupI, dStrI, dLc, dYes, wipeD, dTru, truD, dNoP, dChain, dPow, dShl, dShr, dBand, dBor, dBxor, dMul, dIn, dNotIn, inG, dgN, dAug, dIAdd, onInts, onBls, dSset, max2D, min2D, sumL, allL, anyL, maxL, minL, sortedL, dRng1, dRng2, dTup, dLst, dIs, dIsNot, D.isNon, intD, absD, seqOf, dSl, dNoP, dPart, dTimes, dAndV, dOrV, dNotV, dCall, dDisp, dPairs, dgSub, dSetI, dkey, keysOf, strD, addL, storeA0, storeA, storeB0, storeB, List.length_append, List.append_assoc, List.cons_append, List.nil_append, Int.reduceEq, Int.reduceLT, Int.reduceLE, Int.reduceNeg, Int.reduceAdd, Int.reduceSub, Int.reducePow,
  List.getElem?_cons_zero, List.getElem?_cons_succ, List.set_cons_zero, List.set_cons_succ, List.length_cons, List.length_nil, List.length_map, Nat.reduceAdd, Bool.not_eq_true, Bool.not_true, Bool.not_false, if_true, if_false, Bool.false_eq_true, decide_eq_true_eq, true_and, and_true, reduceCtorEq, ite_true, ite_false, Nat.zero_le, atI0, atI1, atI2, atI3, atI4, atI5, atI6]))
/-! the law's own reader: a dict -/
abbrev dL (m : Nat) (r : PR.Rd) : List (Key × D) := [(.inr "key", nI r.key), (.inr "most", .int r.most), (.inr "limit", .int r.limit), (.inr "now", .int r.now), (.inr "counter", PR.oN r.cn), (.inr "data", PR.oL r.last), (.inr "bell", .int r.bell), (.inr "counts", .loc m)]
def dO (m : Nat) (r : PR.Rd) : MO := .dic (dL m r)
section
variable {m : Nat} {r : PR.Rd}
theorem l_key : dlook (dL m r) (.inr "key") = some (nI r.key) := rfl
theorem l_most : dlook (dL m r) (.inr "most") = some (.int r.most) := rfl
theorem l_limit : dlook (dL m r) (.inr "limit") = some (.int r.limit) := rfl
theorem l_now : dlook (dL m r) (.inr "now") = some (.int r.now) := rfl
theorem l_counter : dlook (dL m r) (.inr "counter") = some (PR.oN r.cn) := rfl
theorem l_data : dlook (dL m r) (.inr "data") = some (PR.oL r.last) := rfl
theorem l_bell : dlook (dL m r) (.inr "bell") = some (.int r.bell) := rfl
theorem l_counts : dlook (dL m r) (.inr "counts") = some (.loc m) := rfl
theorem p_now (i : Int) : dput (dL m r) (.inr "now") (.int i) = dL m { r with now := i } := rfl
theorem p_counter (c : Nat) : dput (dL m r) (.inr "counter") (nI c) = dL m { r with cn := some c } := rfl
theorem p_data (l : List Nat) : dput (dL m r) (.inr "data") (.lst (l.map nI)) = dL m { r with last := some l } := rfl
theorem p_bell (i : Int) : dput (dL m r) (.inr "bell") (.int i) = dL m { r with bell := i } := rfl
end
structure OA (M : MM) (n m : Nat) (r : PR.Rd) : Prop where
  hn : M[n]? = some (dO m r)
  hm : M[m]? = some (PR.cO r.c)
  ne : n ≠ m
def wo (M : MM) (n m : Nat) (r : PR.Rd) : MM := (M.set n (dO m r)).set m (PR.cO r.c)
theorem wo_oa {M : MM} {n m : Nat} {r0 : PR.Rd} (h : OA M n m r0) (r : PR.Rd) : OA (wo M n m r) n m r := by
  obtain ⟨W, e0, gn, gm, sn, sm, eW, lW⟩ := PR.duo h.hn h.hm h.ne
  unfold wo
  rw [← eW]
  exact ⟨gn _ _, gm _ _, h.ne⟩
theorem wo_wo {M : MM} {n m : Nat} {r0 : PR.Rd} (h : OA M n m r0) (r r' : PR.Rd) : wo (wo M n m r) n m r' = wo M n m r' := by
  obtain ⟨W, e0, gn, gm, sn, sm, eW, lW⟩ := PR.duo h.hn h.hm h.ne
  unfold wo
  rw [← eW, sn, sm, eW]
theorem under_dO {m k : Nat} (r : PR.Rd) (h : m < k) : (dO m r).under k = true := by
  have := PR.under_rO (C := 0) r h
  unfold dO
  unfold PR.rO at this
  simpa [MO.under] using this
theorem exitO {M L : MM} {n m : Nat} {r0 r : PR.Rd} {Q : DK} {d : D} (h : OA M n m r0) (hd : d.pure = true) (q : Q d (wo M n m r)) : Exit M Q d (wo M n m r ++ L) := by
  have lm := (List.getElem?_eq_some_iff.mp h.hm).1
  have lw : (wo M n m r).length = M.length := by unfold wo; simp
  refine .inr ⟨M.length, Nat.le_refl _, D.pure_under hd, fun k mo hk e => ?_, by
    rw [List.take_append_of_le_length (by omega), List.take_of_length_le (by omega)]
    exact q⟩
  rw [List.getElem?_append_left (by omega)] at e
  unfold wo at e
  by_cases c1 : k = m
  · subst c1
    rw [List.getElem?_set_self (by simpa using hk)] at e
    cases e
    exact .inl (PR.under_cO _)
  · rw [List.getElem?_set_ne (fun z => c1 z.symm)] at e
    by_cases c2 : k = n
    · subst c2
      rw [List.getElem?_set_self hk] at e
      cases e
      exact .inl (under_dO r lm)
    · rw [List.getElem?_set_ne (fun z => c2 z.symm)] at e
      exact .inr e
def sp__law_new_reader (cl : CL) : DSp := fun ds M Q => ∃ (key : Nat) (most limit : Int), ds = [nI key, .int most, .int limit] ∧ Q (.loc (M.length + 1)) (M ++ [PR.cO PR.cn0, dO M.length (PR.rd0 key most limit)])
theorem len__law_new_reader (cl : CL) (ds : List D) (M : MM) (Q : DK) : sp__law_new_reader cl ds M Q → ds.length = 3 := fun ⟨_, _, _, e, _⟩ => e ▸ rfl
theorem mk_counts : dmerge [] [((Sum.inr ("fine" : Str) : Key), D.int 0), (Sum.inr ("lost" : Str), D.int 0), (Sum.inr ("again" : Str), D.int 0), (Sum.inr ("far" : Str), D.int 0), (Sum.inr ("changed" : Str), D.int 0), (Sum.inr ("late" : Str), D.int 0)] = PR.cL PR.cn0 := by rfl
theorem use__law_new_reader (cl : CL) (ds : List D) (M : MM) (Q : DK) : sp__law_new_reader cl ds M Q → u__law_new_reader cl (ends M Q) (st 4 ds) M := fun ⟨key, most, limit, e, q⟩ => by
  subst e
  show u__law_new_reader _ _ [some (nI key), some (.int most), some (.int limit), none] M
  unfold u__law_new_reader
  (try dsimp only); refine seq_go fun N hN => ?_; walk_at "ev"
  rw [mk_counts]
  refine ⟨by decide, ?_⟩
  refine hN _ _ ?_; clear hN N
  walk_at "ev"
  exact ⟨by decide, .all q⟩
def sp__law_reader_on (cl : CL) : DSp := fun ds M Q => ∃ (n m : Nat) (r : PR.Rd) (now : Int), ds = [.loc n, .int now] ∧ OA M n m r ∧ 1 ≤ r.limit ∧ now < r.bell + 300 * r.limit ∧ Q (.lst ((PR.onR r now).1.map D.int)) (wo M n m (PR.onR r now).2)
theorem len__law_reader_on (cl : CL) (ds : List D) (M : MM) (Q : DK) : sp__law_reader_on cl ds M Q → ds.length = 2 := fun ⟨_, _, _, _, e, _⟩ => e ▸ rfl
theorem trio {M : MM} {n m : Nat} {a b : MO} (hn : M[n]? = some a) (hm : M[m]? = some b) (hne : n ≠ m) : ∃ S : MO → MO → MO → MM, (∀ x y z, (S x y z)[n]? = some x) ∧ (∀ x y z, (S x y z)[m]? = some y) ∧ (∀ x y z, (S x y z)[M.length]? = some z) ∧ (∀ x y z u, (S x y z).set n u = S u y z) ∧ (∀ x y z u, (S x y z).set m u = S x u z) ∧ (∀ x y z u, (S x y z).set M.length u = S x y u) ∧ ∀ x y z, S x y z = (M.set n x).set m y ++ [z] := by
  obtain ⟨W, e0, gn, gm, sn, sm, eW, lW⟩ := PR.duo hn hm hne
  have ln := (List.getElem?_eq_some_iff.mp hn).1
  have lm := (List.getElem?_eq_some_iff.mp hm).1
  refine ⟨fun x y z => W x y ++ [z], fun x y z => ?_, fun x y z => ?_, fun x y z => ?_, fun x y z u => ?_, fun x y z u => ?_, fun x y z u => ?_, fun x y z => by rw [← eW]⟩
  · rw [List.getElem?_append_left (by rw [lW]; exact ln)]
    exact gn x y
  · rw [List.getElem?_append_left (by rw [lW]; exact lm)]
    exact gm x y
  · have := storeL (W x y) z
    rw [lW] at this
    exact this
  · show (W x y ++ [z]).set n u = _
    rw [List.set_append_left _ _ (by rw [lW]; exact ln), sn]
  · show (W x y ++ [z]).set m u = _
    rw [List.set_append_left _ _ (by rw [lW]; exact lm), sm]
  · have := storeS (W x y) z u
    rw [lW] at this
    exact this
/-- a field of the law's own reader -/
theorem v_own {M : MM} {n m i : Nat} {r : PR.Rd} {ds : DEnv} {k : Str} {d : D} (h0 : ds[i]? = some (some (.loc n))) (hn : M[n]? = some (dO m r)) (hk : dlook (dL m r) (.inr k) = some d) : Val (dOp dIx (dVar i) (dC (.str k))) ds M d := v_op (x := .loc n) (y := .str k) (v_var h0) v_c fun K q => by
  unfold dIx
  simp only [hn]
  unfold dO
  simp only [dkey, hk]
  exact q
theorem a_own {M : MM} {n m i : Nat} {r r' : PR.Rd} {ds : DEnv} {k : Str} {d : D} {DD : DEnds} {e : DE} (h0 : ds[i]? = some (some (.loc n))) (hn : M[n]? = some (dO m r)) (hv : Val e ds M d) (hp : dput (dL m r) (.inr k) d = dL m r') (q : DD.nx ds (M.set n (dO m r'))) : dAsg e (dgSub (dVar i) (dC (.str k))) DD ds M := asg_sub (i := .str k) hv (v_var h0) v_c (by
  unfold dSetI
  simp only [hn]
  unfold dO
  simp only [dkey, hp]
  exact ⟨show 8 < sizeLine from by unfold sizeLine; omega, q⟩)
theorem use__law_reader_on (cl : CL) (ds : List D) (M : MM) (Q : DK) : sp__law_reader_on cl ds M Q → u__law_reader_on cl (ends M Q) (st 3 ds) M := fun ⟨n, m, r, now, e, h, l1, hb, q⟩ => by
  subst e
  show u__law_reader_on _ _ [some (.loc n), some (.int now), none] M
  obtain ⟨W, e0, gn, gm, sn, sm, eW, lW⟩ := PR.duo h.hn h.hm h.ne
  obtain ⟨S, s1, s2, s3, p1, p2, p3, pS⟩ := trio h.hn h.hm h.ne
  unfold u__law_reader_on
  refine seq_go fun N hN => a_own rfl h.hn (v_var rfl) (p_now now) (hN _ _ ?_)
  clear hN N
  have eM : M.set n (dO m { r with now := now }) = W (dO m { r with now := now }) (PR.cO r.c) := by
    conv => lhs; rw [e0]
    rw [sn]
  rw [eM]
  (try dsimp only); refine seq_go fun N hN => ?_; walk_at "ev"
  rw [lW, show W (dO m { r with now := now }) (PR.cO r.c) ++ [MO.lst []] = S (dO m { r with now := now }) (PR.cO r.c) (.lst []) by rw [pS, eW]]
  refine hN _ _ ?_; clear hN N
  have lb := PR.bells_len r.limit 300 r.bell now
  refine seq_go fun N hN => ?_
  refine while_inv (fun f ds M' => ∃ (acc : List Int) (b : Int), acc ++ PR.bellsF r.limit f b now = PR.bellsF r.limit 300 r.bell now ∧ b = r.bell + acc.length * r.limit ∧ now < b + f * r.limit ∧ ds = [some (.loc n), some (.int now), some (.loc M.length)] ∧ M' = S (dO m { r with now := now, bell := b }) (PR.cO r.c) (.lst (acc.map D.int))) (m := 300) ⟨[], r.bell, rfl, by simp, by simpa using hb, rfl, rfl⟩ ?_
  rintro f ds0 M0 ⟨acc, b, e1, e2, e3, rfl, rfl⟩ KB hK
  have bl : Val (dOp dIx (dVar 0) (dC (.str "bell"))) [some (.loc n), some (.int now), some (.loc M.length)] (S (dO m { r with now := now, bell := b }) (PR.cO r.c) (.lst (acc.map D.int))) (.int b) := v_own rfl (s1 _ _ _) l_bell
  refine t_val (v_le bl (v_var (i := 1) (d := .int now) rfl)) _ ?_
  by_cases hc : b ≤ now
  · rw [decide_eq_true hc]
    simp only [if_true]
    obtain ⟨f', rfl⟩ : ∃ f', f = f' + 1 := by
      cases f with
      | zero => exact absurd e3 (by simp; omega)
      | succ f' => exact ⟨f', rfl⟩
    have eb : PR.bellsF r.limit (f' + 1) b now = b :: PR.bellsF r.limit f' (b + r.limit) now := by
      conv => lhs; unfold PR.bellsF
      rw [if_pos hc]
    rw [eb] at e1
    have la : acc.length + 1 ≤ 300 := by
      have := congrArg List.length e1
      simp at this
      omega
    refine seq_go fun N hN => ?_
    unfold dO
    walk_at "ev"
    simp only [s1, s3, l_bell, p3]
    refine ⟨trivial, size_ok (by rw [List.length_map]; omega), hN _ _ ?_⟩
    clear hN N
    have bl2 : Val (dOp dIx (dVar 0) (dC (.str "bell"))) [some (.loc n), some (.int now), some (.loc M.length)] (S (dO m { r with now := now, bell := b }) (PR.cO r.c) (.lst (acc.map D.int ++ [D.int b]))) (.int b) := v_own rfl (s1 _ _ _) l_bell
    have ll2 : Val (dOp dIx (dVar 0) (dC (.str "limit"))) [some (.loc n), some (.int now), some (.loc M.length)] (S (dO m { r with now := now, bell := b }) (PR.cO r.c) (.lst (acc.map D.int ++ [D.int b]))) (.int r.limit) := v_own rfl (s1 _ _ _) l_limit
    refine a_own rfl (s1 _ _ _) (v_addI bl2 ll2) (p_bell _) ?_
    rw [p1]
    refine hK f' _ _ (by omega) ⟨acc ++ [b], b + r.limit, by rw [List.append_assoc]; exact e1, ?_, ?_, rfl, ?_⟩
    · rw [e2, List.length_append, List.length_singleton]
      push_cast
      grind
    · push_cast at e3
      grind
    · rw [show ((acc ++ [b]).map D.int) = acc.map D.int ++ [D.int b] by simp]
  · rw [decide_eq_false hc]
    simp only [if_false]
    have eb : PR.bellsF r.limit f b now = [] := by
      cases f with
      | zero => rfl
      | succ f' => unfold PR.bellsF; rw [if_neg hc]
    rw [eb, List.append_nil] at e1
    refine hN _ _ ?_
    clear hN N
    have er : (PR.onR r now).2 = { r with now := now, bell := b, c := r.c.put .late (r.c.late + acc.length) } := by
      unfold PR.onR
      rw [← e1, e2]
    have hl := PR.cn_look r.c .late
    have hp := fun i => PR.cn_put r.c .late i
    simp only [PR.Wd.nm] at hl hp
    refine seq_go fun N hN => ?_
    have lc : Val (dOp dIx (dVar 0) (dC (.str "counts"))) [some (.loc n), some (.int now), some (.loc M.length)] (S (dO m { r with now := now, bell := b }) (PR.cO r.c) (.lst (acc.map D.int))) (.loc m) := v_own rfl (s1 _ _ _) l_counts
    refine asg_sub (i := .str "late") (v_addI (v_op (x := .loc m) (y := .str "late") (d := .int r.c.late) lc v_c fun K k => ?_) (v_lenN (v_var (i := 2) (d := .loc M.length) rfl) (xs := acc.map D.int) (n := acc.length) ?_ (by simp))) lc v_c ?_
    · unfold dIx
      simp only [s2]
      unfold PR.cO
      simp only [dkey, hl]
      exact k
    · unfold seqOf
      simp only [s3]
    unfold dSetI
    simp only [s2]
    unfold PR.cO
    simp only [dkey, hp, p2]
    refine ⟨show 6 < sizeLine from by unfold sizeLine; omega, hN _ _ ?_⟩
    clear hN N
    refine v_frz (v_var rfl) (s3 _ _ _) ?_
    rw [p3, pS]
    rw [show (PR.onR r now).1 = acc by unfold PR.onR; exact e1.symm, er] at q
    exact exitO (r := { r with now := now, bell := b, c := r.c.put .late (r.c.late + acc.length) }) h (fit_ints _ (by rw [e1]; omega) 0).p q
end K81

namespace K81
open PySem L2 AX PF PQ PS
open PB hiding u__law_same use__law_same len__law_same none__law_same same_items same_tail b_same
local macro_rules | `(tactic| walk_at "ev") => `(tactic| (simp only [dCallX, dFld, dgFld, dMeth, dMethX, dMake, dMakeX, insOf, putD_nil, putD_zero, putD_succ, dRaise, dExF, wlook_hit, dSeq, dAsg, dNew, dC, dgN, dFor, dList, dVar, dIf, dAnd, dOr, dNot, dTest, dOp, dUn, dCB, a1, a2, lenD, dCons, dNil, dNeg, dEq, dNe, dIx, ixL, dAdd, dSub, dI2, dI2C, dFdiv, dMod, dLt, dLe, dGt, dGe, dDrop, dBM, tyD, appD, dIfS, dNext, dRet, dFrz, dPar, dgTup, dgCons, dgNil, dgSub, dWhile, dBrk, dCnt, dRetN, dTupI, dStrI, dLc, dYes, wipeD, dTru, truD, dNoP, dChain, dPow, dShl, dShr, dBand, dBor, dBxor, dMul, dIn, dNotIn, inG, dgN, dAug, dIAdd, onInts, onBls, dSset, max2D, min2D, sumL, allL, anyL, maxL, minL, sortedL, listN, dRng1, dRng2, dTup, dLst, dIs, dIsNot, D.isNon, intD, absD, listD, seqOf, dSl, dNoP, dPart, slD, dTimes, dAndV, dOrV, dNotV, dCall, dDisp, dPairs, dgSub, dSetI, dkey, keysOf, strD, addL, storeA0, storeA, storeB0, storeB, List.length_append, List.append_assoc, List.cons_append, List.nil_append, Int.reduceEq, Int.reduceLT, Int.reduceLE, Int.reduceNeg, Int.reduceAdd, Int.reduceSub, Int.reducePow,
  List.getElem?_cons_zero, List.getElem?_cons_succ, List.set_cons_zero, List.set_cons_succ, List.length_cons, List.length_nil, List.length_map, Nat.reduceAdd, Bool.not_eq_true, Bool.not_true, Bool.not_false, if_true, if_false, Bool.false_eq_true, decide_eq_true_eq, true_and, and_true, reduceCtorEq, ite_true, ite_false, Nat.zero_le, atI0, atI1, atI2, atI3, atI4, atI5, atI6]))
local macro_rules | `(tactic| walk_at "sd") => `(tactic| first | assumption | decide | omega | (exact size_ok (by omega)) | (exact size_le (by omega)) | (unfold TimesOk; omega) | (rw [sizeLine_eq]; decide))
local macro_rules | `(tactic| walk_at "go") => `(tactic| repeat ((with_reducible refine And.intro ?_ ?_); (· walk_at "sd")))
local macro_rules | `(tactic| walk_at "ft") => `(tactic| repeat (first | assumption | exact fit_int _ _ | exact fit_str _ _ | exact fit_bl _ _ | exact fit_non _ | exact fits_nil | refine fits_cons ?_ ?_ | exact fit_ints _ (by omega) _ | refine fit_lst (by simp only [List.length_cons, List.length_nil]; omega) ?_ | refine fit_tup (by simp only [List.length_cons, List.length_nil]; omega) ?_))
local macro_rules | `(tactic| walk_at "fo") => `(tactic| repeat ((with_reducible refine And.intro ?_ ?_); (· first | exact ⟨rfl, rfl⟩ | exact ⟨rfl, rfl, Nat.le_of_ble_eq_true rfl, Nat.le_of_ble_eq_true rfl⟩ | exact size_le (by decide))))
local macro_rules | `(tactic| walk_at "lv") => `(tactic| (simp only [dCallX, dFld, dgFld, dMeth, dMethX, dMake, dMakeX, insOf, putD_nil, putD_zero, putD_succ, dRaise, dExF, wlook_hit, dSeq, dAsg, dNew, dC, dgN, dFor, dList, dVar, dIf, dAnd, dOr, dNot, dTest, dOp, dUn, dCB, a1, a2, dCons, dNil, dNeg, dEq, dNe, dAdd, dSub, dI2, dI2C, dFdiv, dMod, dLt, dLe, dGt, dGe, dDrop, dBM, tyD, appD, dIfS, dNext, dRet, dFrz, dPar, dgTup, dgCons, dgNil, dgSub, dWhile, dBrk, dCnt, dRetN, dTupI, dStrI, dLc, dYes, wipeD, dTru, truD, dNoP, dChain, dPow, dShl, dShr, dBand, dBor, dBxor, dMul, dIn, dNotIn, inG, dgN, dAug, dIAdd, onInts, onBls, dSset, max2D, min2D, sumL, allL, anyL, maxL, minL, sortedL, dRng1, dRng2, dTup, dLst, dIs, dIsNot, D.isNon, intD, absD, seqOf, dSl, dNoP, dPart, dTimes, dAndV, dOrV, dNotV, dCall, dDisp, dPairs, dgSub, dSetI, dkey, keysOf, strD, addL, storeA0, storeA, storeB0, storeB, List.length_append, List.append_assoc, List.cons_append, List.nil_append, Int.reduceEq, Int.reduceLT, Int.reduceLE, Int.reduceNeg, Int.reduceAdd, Int.reduceSub, Int.reducePow,
  List.getElem?_cons_zero, List.getElem?_cons_succ, List.set_cons_zero, List.set_cons_succ, List.length_cons, List.length_nil, List.length_map, Nat.reduceAdd, Bool.not_eq_true, Bool.not_true, Bool.not_false, if_true, if_false, Bool.false_eq_true, decide_eq_true_eq, true_and, and_true, reduceCtorEq, ite_true, ite_false, Nat.zero_le, atI0, atI1, atI2, atI3, atI4, atI5, atI6]))
def goneV (cn : Option Nat) (o1 : Nat) : Int := match cn with
  | none => 0
  | some c => ((o1 : Int) - c - 1) % 15
theorem takeR_gone {r : PR.Rd} {o : List Nat} (hr : PR.right r.key o = true) : PR.takeR r o = if r.cn.isSome = true ∧ goneV r.cn (o.getD 1 0) = 14 then (.str "again", r.cnt .again) else
    if goneV r.cn (o.getD 1 0) = 0 then (.str "fine", (r.take1 o).cnt .fine) else
    if goneV r.cn (o.getD 1 0) ≤ r.most then (.tup [.str "lost", .int (goneV r.cn (o.getD 1 0))], (r.take1 o).cnt .lost) else
    (.tup [.str "far", .int (goneV r.cn (o.getD 1 0))], { r with cn := some (o.getD 1 0) }.cnt .far) := by
  unfold PR.takeR
  rw [if_neg (by rw [hr]; decide)]
  rcases hc : r.cn with _ | c
  · simp [goneV]
  · dsimp only
    have hg : goneV (some c) (o.getD 1 0) = (((o.getD 1 0 : Nat) : Int) - c - 1) % 15 := rfl
    generalize goneV (some c) (o.getD 1 0) = g2 at hg ⊢
    have e : ((((o.getD 1 0 : Nat) : Int) - c) % 15 = 0 ∧ g2 = 14) ∨ ((((o.getD 1 0 : Nat) : Int) - c) % 15 ≠ 0 ∧ (((o.getD 1 0 : Nat) : Int) - c) % 15 - 1 = g2 ∧ g2 ≠ 14) := by omega
    generalize (((o.getD 1 0 : Nat) : Int) - c) % 15 = g at hg e ⊢
    rcases e with ⟨e1, e2⟩ | ⟨g0, e2, e3⟩
    · rw [if_pos e1, if_pos ⟨rfl, e2⟩]
    · rw [if_neg g0, if_neg (show ¬ ((some c).isSome = true ∧ g2 = 14) from fun h => e3 h.2)]
      by_cases g1 : g = 1
      · rw [if_pos g1, if_pos (by omega)]
      · rw [if_neg g1, if_neg (show ¬ g2 = 0 by omega), e2]
theorem v_chainL {e1 e2 e3 : DE} {ds : DEnv} {M : MM} {i j k : Int} (h1 : Val e1 ds M (.int i)) (h2 : Val e2 ds M (.int j)) (h3 : Val e3 ds M (.int k)) : Val (dChain dLt dLt e1 e2 e3) ds M (.bl (decide (i < j) && decide (j < k))) := fun Q q => h1 _ (h2 _ (by
  show (if decide (i < j) = true then e3 ds M (fun w M4 => dLt (.int j) w M4 Q) else Q (.bl false) M)
  by_cases c : i < j
  · rw [decide_eq_true c] at q ⊢
    rw [if_pos rfl]
    exact h3 _ q
  · rw [decide_eq_false c] at q ⊢
    rw [if_neg (by decide)]
    exact q))
theorem v_chainE {e1 e2 e3 : DE} {ds : DEnv} {M : MM} {i j k : Int} (h1 : Val e1 ds M (.int i)) (h2 : Val e2 ds M (.int j)) (h3 : Val e3 ds M (.int k)) : Val (dChain dLe dLt e1 e2 e3) ds M (.bl (decide (i ≤ j) && decide (j < k))) := fun Q q => h1 _ (h2 _ (by
  show (if decide (i ≤ j) = true then e3 ds M (fun w M4 => dLt (.int j) w M4 Q) else Q (.bl false) M)
  by_cases c : i ≤ j
  · rw [decide_eq_true c] at q ⊢
    rw [if_pos rfl]
    exact h3 _ q
  · rw [decide_eq_false c] at q ⊢
    rw [if_neg (by decide)]
    exact q))
def sp__law_reader_takes (cl : CL) : DSp := fun ds M Q => ∃ (n m : Nat) (r : PR.Rd) (o : List Nat) (now : Int), ds = [.loc n, .lst (o.map nI), .int now] ∧ OA M n m r ∧ o.length ≤ 1000 ∧ octs o ∧ r.key ≤ 65535 ∧ 1 ≤ r.limit ∧ now < r.bell + 300 * r.limit ∧
  Q (PR.takeR' (PR.onR r now).2 o).1 (wo M n m (PR.takeR' (PR.onR r now).2 o).2)
theorem len__law_reader_takes (cl : CL) (ds : List D) (M : MM) (Q : DK) : sp__law_reader_takes cl ds M Q → ds.length = 3 := fun ⟨_, _, _, _, _, e, _⟩ => e ▸ rfl
theorem wo_self {M : MM} {n m : Nat} {r : PR.Rd} (h : OA M n m r) : wo M n m r = M := by
  obtain ⟨W, e0, gn, gm, sn, sm, eW, lW⟩ := PR.duo h.hn h.hm h.ne
  unfold wo
  rw [← eW]
  exact e0.symm
/-- one field of the law's own reader is another -/
theorem set_own {M : MM} {n m : Nat} {r r' : PR.Rd} (h : OA M n m r) (hc : r'.c = r.c) : M.set n (dO m r') = wo M n m r' := by
  obtain ⟨W, e0, gn, gm, sn, sm, eW, lW⟩ := PR.duo h.hn h.hm h.ne
  unfold wo
  rw [← eW, hc]
  conv => lhs; rw [e0]
  rw [sn]
theorem use__law_reader_takes (cl : CL) (ds : List D) (M : MM) (Q : DK) : sp__law_reader_takes cl ds M Q → u__law_reader_takes cl (sp__law_reader_on cl) sp__law_guarded (ends M Q) (st 8 ds) M := fun ⟨n, m, r, o, now, e, h, lo, ho, hk, l1, hb, q⟩ => by
  subst e
  show u__law_reader_takes _ _ _ _ [some (.loc n), some (.lst (o.map nI)), some (.int now), none, none, none, none, none] M
  unfold u__law_reader_takes
  refine seq_go fun N hN => ?_
  walk_at "ev"
  refine ⟨n, m, r, now, rfl, h, l1, hb, hN _ _ ?_⟩
  clear hN N
  have h1 := wo_oa h (PR.onR r now).2
  rw [← wo_wo h (PR.onR r now).2] at q
  have hk1 : (PR.onR r now).2.key ≤ 65535 := hk
  have hnow : (PR.onR r now).2.now = now := rfl
  generalize (PR.onR r now).2 = r1 at *
  generalize wo M n m r1 = M1 at *
  -- the end
  have fin : ∀ (M2 : MM) (r2 : PR.Rd) (w : PR.Wd) (told : D) (y3 y4 y7 : Option D), OA M2 n m r2 → Q told (wo M2 n m (r2.cnt w)) →
      dSeq (dAsg (dOp dAdd (dOp dIx (dOp dIx (dVar 0) (dC (.str "counts"))) (dVar 5)) (dC (.int 1))) (dgSub (dOp dIx (dVar 0) (dC (.str "counts"))) (dVar 5))) (dRet (dVar 6)) (ends M Q) [some (.loc n), some (.lst (o.map nI)), some (.int now), y3, y4, some (.str w.nm), some told, y7] M2 := fun M2 r2 w told y3 y4 y7 h2 q2 => by
    have lc : Val (dOp dIx (dVar 0) (dC (.str "counts"))) [some (.loc n), some (.lst (o.map nI)), some (.int now), y3, y4, some (.str w.nm), some told, y7] M2 (.loc m) := v_own rfl h2.hn l_counts
    have hl := PR.cn_look r2.c w
    have hp := fun i => PR.cn_put r2.c w i
    refine seq_go fun N hN => asg_sub (i := .str w.nm) (v_addI (v_op (x := .loc m) (y := .str w.nm) (d := .int (r2.c.get w)) lc (v_var rfl) fun K k => ?_) v_c) lc (v_var rfl) ?_
    · unfold dIx
      simp only [h2.hm]
      unfold PR.cO
      simp only [dkey, hl]
      exact k
    unfold dSetI
    simp only [h2.hm]
    unfold PR.cO
    simp only [dkey, hp]
    refine ⟨show 6 < sizeLine from by unfold sizeLine; omega, hN _ _ (s_ret' (v_var rfl _ (.all ?_)))⟩
    obtain ⟨W, e0, gn, gm, sn, sm, eW, lW⟩ := PR.duo h2.hn h2.hm h2.ne
    have z : M2.set m (.dic (PR.cL (r2.c.put w (r2.c.get w + 1)))) = wo M2 n m (r2.cnt w) := by
      unfold wo
      rw [← eW]
      conv => lhs; rw [e0]
      rw [sm]
      rfl
    rw [z]
    exact q2
  -- fits
  generalize hds : [some (D.loc n), some (D.lst (o.map nI)), some (D.int now), (none : Option D), none, none, none, none] = ds0
  have x1 : Val (dVar 1) ds0 M1 (.lst (o.map nI)) := v_var (by rw [← hds]; rfl)
  have wide : ∀ (f : Nat → Bool), (∀ a ∈ o, f a = true) → o.all f = true := fun f hf => List.all_eq_true.mpr hf
  have va : Val (dCB allL (dCons (dLc (dList (dVar 1)) (dgN 4) dYes (dChain dLe dLt (dC (.int 0)) (dVar 4) (dC (.int 256))) [4]) dNil)) ds0 M1 (.bl true) := by
    have := v_allM (fun a : Nat => decide ((0 : Int) ≤ (a : Int)) && decide ((a : Int) < 256)) o (v_lcM 4 nI (fun a => D.bl (decide ((0 : Int) ≤ (a : Int)) && decide ((a : Int) < 256))) o x1 rfl (size_le (by omega)) (ue := dChain dLe dLt (dC (.int 0)) (dVar 4) (dC (.int 256))) (vs := [4]) fun a ha => v_chainE v_c (v_var (by rw [← hds]; rfl)) v_c)
    rw [wide _ fun a ha => by
      have := ho a ha
      rw [decide_eq_true (by omega), decide_eq_true (by omega)]
      rfl] at this
    exact this
  have vl : Val (dCB (a1 lenD) (dCons (dVar 1) dNil)) ds0 M1 (.int (o.length : Int)) := v_lenN x1 rfl (by simp)
  have vf := v_andV (v_chainL (v_c (d := .int 1)) vl (v_c (d := .int 9))) fun hx => v_andV va fun _ => v_lt (v_ixS x1 (v_c (d := .int 1)) rfl (PR.at_nI (i := 1) (o := o) (by
    rw [Bool.and_eq_true, decide_eq_true_eq, decide_eq_true_eq] at hx
    omega))) (v_c (d := .int 15))
  generalize hfb : (decide ((1 : Int) < (o.length : Int)) && decide ((o.length : Int) < 9) && (true && decide (((o.getD 1 0 : Nat) : Int) < 15))) = fb at vf
  refine seq_go fun N hN => asg vf (hN _ _ ?_)
  clear hN N
  rw [← hds]
  clear x1 va vl vf hds
  refine seq_go fun N hN => ?_
  walk_at "ev"
  refine ⟨size_le (by decide), hN _ _ ?_⟩
  clear hN N
  have key1 : ∀ ds, ds[0]? = some (some (.loc n)) → Val (dOp dIx (dVar 0) (dC (.str "key"))) ds M1 (nI r1.key) := fun ds hd => v_own hd h1.hn l_key
  refine seq_go fun N hN => ?_
  have tt : Tst (dAnd (dTest (dVar 3)) (dTest (dOp dEq (dCall sp__law_guarded (dCons (dSl (dVar 1) (dPart (dC (.int 2))) dNoP) (dCons (dOp dIx (dVar 1) (dC (.int 1))) (dCons (dOp dIx (dVar 0) (dC (.str "key"))) dNil)))) (dVar 1)))) [some (.loc n), some (.lst (o.map nI)), some (.int now), some (.bl fb), none, some (.str "changed"), some (.str "changed"), none] M1 (fb && decide (gF (o.drop 2) (o.getD 1 0) r1.key = o)) := t_and (t_val (v_var rfl)) fun hb1 => by
    rw [← hfb, Bool.true_and, Bool.and_eq_true, Bool.and_eq_true, decide_eq_true_eq, decide_eq_true_eq, decide_eq_true_eq] at hb1
    rw [← PR.eqv_nIs]
    refine t_val (v_eqD (v_call3 (v_slL (v_var (i := 1) (d := .lst (o.map nI)) rfl) rfl (fun Q q => v_c _ q) (fun Q q => q) (ys := (o.drop 2).map nI) (by
      rw [show (some 2 : Option Int) = some ((2 : Nat) : Int) from rfl, cut_drop, List.map_drop])) (v_ixS (v_var (i := 1) (d := .lst (o.map nI)) rfl) v_c rfl (PR.at_nI (i := 1) (by omega))) (key1 _ rfl) fun K k => ⟨o.drop 2, o.getD 1 0, r1.key, rfl, by rw [List.length_drop]; omega, fun y hy => ho y (List.mem_of_mem_drop hy), by omega, hk1, k⟩) (v_var rfl) (fit_oct (by simp [gF]; omega)) (fit_oct (by omega)) (by decide))
  have er : (fb && decide (gF (o.drop 2) (o.getD 1 0) r1.key = o)) = PR.right' r1.key o := by
    rw [← hfb]
    unfold PR.right' PR.right
    rw [Bool.true_and, ← Bool.decide_and, ← Bool.decide_and, ← Bool.decide_and, ← Bool.decide_and, ← Bool.decide_and]
    exact decide_eq_decide.mpr (by constructor <;> (rintro ⟨x1, x2⟩; refine ⟨?_, ?_⟩ <;> first | omega | exact x2 | exact ⟨by omega, x2⟩ | exact x2.2))
  rw [er] at tt
  unfold PR.takeR' at q
  by_cases hr : PR.right' r1.key o = true
  · rw [hr] at tt
    rw [if_pos hr] at q
    refine if1 tt ?_
    clear tt er hfb
    have hr2 : 2 ≤ o.length ∧ PR.right r1.key o = true := by
      unfold PR.right' at hr
      rw [Bool.and_eq_true, decide_eq_true_eq] at hr
      exact ⟨hr.1.1, hr.2⟩
    obtain ⟨l2, hrr⟩ := hr2
    rw [takeR_gone hrr] at q
    have i1 : ∀ {M0 : MM} {y3 y4 y5 y6 y7 : Option D}, Val (dOp dIx (dVar 1) (dC (.int 1))) [some (.loc n), some (.lst (o.map nI)), some (.int now), y3, y4, y5, y6, y7] M0 (nI (o.getD 1 0)) := v_ixS (v_var (i := 1) (d := .lst (o.map nI)) rfl) v_c rfl (PR.at_nI (i := 1) (by omega))
    have vcn : ∀ {y3 y4 y5 y6 y7 : Option D}, Val (dOp dIx (dVar 0) (dC (.str "counter"))) [some (.loc n), some (.lst (o.map nI)), some (.int now), y3, y4, y5, y6, y7] M1 (PR.oN r1.cn) := v_own rfl h1.hn l_counter
    refine seq_go fun N2 hN2 => asg (d := .int (goneV r1.cn (o.getD 1 0))) ?_ (hN2 _ _ ?_)
    · rcases hc : r1.cn with _ | c
      · rw [hc] at vcn
        exact v_if (b := true) (d2 := .non) (t_val (v_isN vcn)) (fun _ => v_c) (fun h => by cases h)
      · rw [hc] at vcn
        exact v_if (b := false) (d1 := .non) (t_val (v_isN vcn)) (fun h => by cases h) fun _ => v_modI (v_int (v_subI (v_subI i1 vcn) v_c)) v_c (by decide)
    clear hN2 N2
    have isn : (PR.oN r1.cn).isNon = !r1.cn.isSome := by cases r1.cn <;> rfl
    generalize goneV r1.cn (o.getD 1 0) = g at q ⊢
    have t2 : Tst (dAnd (dTest (dOp dIsNot (dOp dIx (dVar 0) (dC (.str "counter"))) (dC .non))) (dTest (dOp dEq (dVar 7) (dC (.int 14))))) [some (.loc n), some (.lst (o.map nI)), some (.int now), some (.bl fb), none, some (.str "changed"), some (.str "changed"), some (.int g)] M1 (r1.cn.isSome && decide (g = 14)) := t_and (by
      have := t_val (v_notN (vcn (y3 := some (.bl fb)) (y4 := none) (y5 := some (.str "changed")) (y6 := some (.str "changed")) (y7 := some (.int g))))
      rw [isn, Bool.not_not] at this
      exact this) fun _ => t_val (v_eqI (v_var rfl) v_c)
    by_cases ca : r1.cn.isSome = true ∧ g = 14
    · rw [if_pos ca] at q
      rw [ca.1, decide_eq_true ca.2, Bool.and_self] at t2
      refine if1 t2 ?_
      walk_at "ev"
      exact ⟨size_le (by decide), hN _ _ (fin M1 r1 .again _ _ _ _ h1 q)⟩
    · rw [if_neg ca] at q
      have eb : (r1.cn.isSome && decide (g = 14)) = false := by
        rw [Bool.eq_false_iff]
        intro hh
        rw [Bool.and_eq_true, decide_eq_true_eq] at hh
        exact ca hh
      rw [eb] at t2
      refine if0 t2 ?_
      have tail : ∀ (w : PR.Wd) (told : D), (w ≠ .far → Q told (wo M1 n m ((r1.take1 o).cnt w))) → (w = .far → Q told (wo M1 n m (PR.Rd.cnt { r1 with cn := some (o.getD 1 0) } .far))) → (w = .fine ∨ w = .lost ∨ w = .far) →
          dSeq (dAsg (dOp dIx (dVar 1) (dC (.int 1))) (dgSub (dVar 0) (dC (.str "counter"))))
            (dIfS (dTest (dOp dNe (dVar 5) (dC (.str "far")))) (dAsg (dTup (dCons (dSl (dVar 1) (dPart (dC (.int 2))) dNoP) (dCons (dOp dAdd (dVar 2) (dOp dIx (dVar 0) (dC (.str "limit")))) dNil))) (dgTup 2 (dgCons (dgSub (dVar 0) (dC (.str "data"))) (dgCons (dgSub (dVar 0) (dC (.str "bell"))) dgNil)))) dNext)
            { nx := N, rt := (ends M Q).rt } [some (.loc n), some (.lst (o.map nI)), some (.int now), some (.bl fb), none, some (.str w.nm), some told, some (.int g)] M1 := fun w told qa qb hw => by
        refine seq_go fun N3 hN3 => a_own rfl h1.hn i1 (p_counter _) (hN3 _ _ ?_)
        clear hN3 N3
        rw [set_own (r' := { r1 with cn := some (o.getD 1 0) }) h1 rfl]
        have h2 := wo_oa h1 { r1 with cn := some (o.getD 1 0) }
        have tf : Tst (dTest (dOp dNe (dVar 5) (dC (.str "far")))) [some (.loc n), some (.lst (o.map nI)), some (.int now), some (.bl fb), none, some (.str w.nm), some told, some (.int g)] (wo M1 n m { r1 with cn := some (o.getD 1 0) }) (!D.eqv (.str w.nm) (.str "far")) := t_val (v_neD (v_var rfl) v_c (fit_str _ 0) (fit_str _ 0) (by decide))
        have far : w = .far → dIfS (dTest (dOp dNe (dVar 5) (dC (.str "far")))) (dAsg (dTup (dCons (dSl (dVar 1) (dPart (dC (.int 2))) dNoP) (dCons (dOp dAdd (dVar 2) (dOp dIx (dVar 0) (dC (.str "limit")))) dNil))) (dgTup 2 (dgCons (dgSub (dVar 0) (dC (.str "data"))) (dgCons (dgSub (dVar 0) (dC (.str "bell"))) dgNil)))) dNext { nx := N, rt := (ends M Q).rt } [some (.loc n), some (.lst (o.map nI)), some (.int now), some (.bl fb), none, some (.str w.nm), some told, some (.int g)] (wo M1 n m { r1 with cn := some (o.getD 1 0) }) := fun e => by
          subst e
          rw [show (!D.eqv (.str PR.Wd.far.nm) (.str "far")) = false by decide] at tf
          exact if0 tf (hN _ _ (fin _ _ .far _ _ _ _ h2 (by rw [wo_wo h1]; exact qb rfl)))
        have oth : w ≠ .far → (!D.eqv (.str w.nm) (.str "far")) = true → dIfS (dTest (dOp dNe (dVar 5) (dC (.str "far")))) (dAsg (dTup (dCons (dSl (dVar 1) (dPart (dC (.int 2))) dNoP) (dCons (dOp dAdd (dVar 2) (dOp dIx (dVar 0) (dC (.str "limit")))) dNil))) (dgTup 2 (dgCons (dgSub (dVar 0) (dC (.str "data"))) (dgCons (dgSub (dVar 0) (dC (.str "bell"))) dgNil)))) dNext { nx := N, rt := (ends M Q).rt } [some (.loc n), some (.lst (o.map nI)), some (.int now), some (.bl fb), none, some (.str w.nm), some told, some (.int g)] (wo M1 n m { r1 with cn := some (o.getD 1 0) }) := fun e e2 => by
          rw [e2] at tf
          refine if1 tf ?_
          have sl : Val (dSl (dVar 1) (dPart (dC (.int 2))) dNoP) [some (.loc n), some (.lst (o.map nI)), some (.int now), some (.bl fb), none, some (.str w.nm), some told, some (.int g)] (wo M1 n m { r1 with cn := some (o.getD 1 0) }) (.lst ((o.drop 2).map nI)) := v_slL (v_var (i := 1) (d := .lst (o.map nI)) rfl) rfl (fun Q q => v_c _ q) (fun Q q => q) (by
            rw [show (some 2 : Option Int) = some ((2 : Nat) : Int) from rfl, cut_drop, List.map_drop])
          have li : Val (dOp dIx (dVar 0) (dC (.str "limit"))) [some (.loc n), some (.lst (o.map nI)), some (.int now), some (.bl fb), none, some (.str w.nm), some told, some (.int g)] (wo M1 n m { r1 with cn := some (o.getD 1 0) }) (.int r1.limit) := v_own rfl h2.hn l_limit
          refine v_tup2 sl (v_addI (v_var (i := 2) (d := .int now) rfl) li) _ ?_
          have ln := (List.getElem?_eq_some_iff.mp h2.hn).1
          have gs : ∀ x, (List.set (wo M1 n m { r1 with cn := some (o.getD 1 0) }) n x)[n]? = some x := fun x => List.getElem?_set_self ln
          walk_at "ev"
          simp only [h2.hn]
          unfold dO
          simp only [p_data, gs, List.set_set, p_bell]
          refine ⟨show 8 < sizeLine from by unfold sizeLine; omega, show 8 < sizeLine from by unfold sizeLine; omega, hN _ _ ?_⟩
          have e3 := set_own (r' := r1.take1 o) h2 rfl
          have e4 : List.set (wo M1 n m { r1 with cn := some (o.getD 1 0) }) n (MO.dic (dL m { r1 with cn := some (o.getD 1 0), last := some (o.drop 2), bell := now + r1.limit })) = wo (wo M1 n m { r1 with cn := some (o.getD 1 0) }) n m (r1.take1 o) := by
            rw [← e3]
            unfold PR.Rd.take1
            rw [hnow]
            rfl
          have h3 := wo_oa h2 (r1.take1 o)
          have q3 := qa e
          rw [← wo_wo h1 { r1 with cn := some (o.getD 1 0) }, ← wo_wo h2 (r1.take1 o)] at q3
          exact e4 ▸ fin _ (r1.take1 o) w told _ _ _ h3 q3
        rcases hw with rfl | rfl | rfl
        · exact oth (fun h => by cases h) (by decide)
        · exact oth (fun h => by cases h) (by decide)
        · exact far rfl
      have vm : ∀ {y3 y4 y5 y6 y7 : Option D}, Val (dOp dIx (dVar 0) (dC (.str "most"))) [some (.loc n), some (.lst (o.map nI)), some (.int now), y3, y4, y5, y6, y7] M1 (.int r1.most) := v_own rfl h1.hn l_most
      have tg : ∀ {y3 y4 y5 y6 : Option D}, Tst (dTest (dOp dEq (dVar 7) (dC (.int 0)))) [some (.loc n), some (.lst (o.map nI)), some (.int now), y3, y4, y5, y6, some (.int g)] M1 (decide (g = 0)) := t_val (v_eqI (v_var rfl) v_c)
      have word := v_if (M := M1) (ds := [some (.loc n), some (.lst (o.map nI)), some (.int now), some (.bl fb), none, some (.str "changed"), some (.str "changed"), some (.int g)]) tg (fun _ => v_c (d := .str "fine")) fun _ => v_if (t_val (v_le (v_var (i := 7) (d := .int g) rfl) vm)) (fun _ => v_c (d := .str "lost")) (fun _ => v_c (d := .str "far"))
      refine seq_go fun N3 hN3 => asg word (hN3 _ _ ?_)
      clear hN3 N3
      by_cases g0 : g = 0
      · rw [if_pos g0] at q
        rw [decide_eq_true g0] at tg ⊢
        refine seq_go fun N3 hN3 => asg (v_if (b := true) (d2 := .non) tg (fun _ => v_var rfl) (fun h => by cases h)) (hN3 _ _ ?_)
        exact tail .fine (.str "fine") (fun _ => q) (fun h => by cases h) (.inl rfl)
      · rw [if_neg g0] at q
        rw [decide_eq_false g0] at tg ⊢
        by_cases gl : g ≤ r1.most
        · rw [if_pos gl] at q
          rw [decide_eq_true gl]
          refine seq_go fun N3 hN3 => asg (v_if (b := false) (d1 := .non) tg (fun h => by cases h) (fun _ => v_tup2 (v_var (i := 5) (d := .str "lost") rfl) (v_var (i := 7) (d := .int g) rfl))) (hN3 _ _ ?_)
          exact tail .lost (.tup [.str "lost", .int g]) (fun _ => q) (fun h => by cases h) (.inr (.inl rfl))
        · rw [if_neg gl] at q
          rw [decide_eq_false gl]
          refine seq_go fun N3 hN3 => asg (v_if (b := false) (d1 := .non) tg (fun h => by cases h) (fun _ => v_tup2 (v_var (i := 5) (d := .str "far") rfl) (v_var (i := 7) (d := .int g) rfl))) (hN3 _ _ ?_)
          exact tail .far (.tup [.str "far", .int g]) (fun h => absurd rfl h) (fun _ => q) (.inr (.inr rfl))
  · rw [(by simpa using hr : PR.right' r1.key o = false)] at tt
    rw [if_neg hr] at q
    exact if0 tt (hN _ _ (fin M1 r1 .changed _ _ _ _ h1 q))
end K81

namespace K81
open PySem L2 AX PF PQ PS
open PB hiding u__law_same use__law_same len__law_same none__law_same same_items same_tail b_same
local macro_rules | `(tactic| walk_at "ev") => `(tactic| (simp only [dCallX, dFld, dgFld, dMeth, dMethX, dMake, dMakeX, insOf, putD_nil, putD_zero, putD_succ, dRaise, dExF, wlook_hit, dSeq, dAsg, dNew, dC, dgN, dFor, dList, dVar, dIf, dAnd, dOr, dNot, dTest, dOp, dUn, dCB, a1, a2, lenD, dCons, dNil, dNeg, dEq, dNe, dIx, ixL, dAdd, dSub, dI2, dI2C, dFdiv, dMod, dLt, dLe, dGt, dGe, dDrop, dBM, tyD, appD, dIfS, dNext, dRet, dFrz, dPar, dgTup, dgCons, dgNil, dgSub, dWhile, dBrk, dCnt, dRetN, dTupI, dStrI, dLc, dYes, wipeD, dTru, truD, dNoP, dChain, dPow, dShl, dShr, dBand, dBor, dBxor, dMul, dIn, dNotIn, inG, dgN, dAug, dIAdd, onInts, onBls, dSset, max2D, min2D, sumL, allL, anyL, maxL, minL, sortedL, listN, dRng1, dRng2, dTup, dLst, dIs, dIsNot, D.isNon, intD, absD, listD, seqOf, dSl, dNoP, dPart, slD, dTimes, dAndV, dOrV, dNotV, dCall, dDisp, dPairs, dgSub, dSetI, dkey, keysOf, strD, addL, storeA0, storeA, storeB0, storeB, List.length_append, List.append_assoc, List.cons_append, List.nil_append, Int.reduceEq, Int.reduceLT, Int.reduceLE, Int.reduceNeg, Int.reduceAdd, Int.reduceSub, Int.reducePow,
  List.getElem?_cons_zero, List.getElem?_cons_succ, List.set_cons_zero, List.set_cons_succ, List.length_cons, List.length_nil, List.length_map, Nat.reduceAdd, Bool.not_eq_true, Bool.not_true, Bool.not_false, if_true, if_false, Bool.false_eq_true, decide_eq_true_eq, true_and, and_true, reduceCtorEq, ite_true, ite_false, Nat.zero_le, atI0, atI1, atI2, atI3, atI4, atI5, atI6]))
local macro_rules | `(tactic| walk_at "sd") => `(tactic| first | assumption | decide | omega | (exact size_ok (by omega)) | (exact size_le (by omega)) | (unfold TimesOk; omega) | (rw [sizeLine_eq]; decide))
local macro_rules | `(tactic| walk_at "go") => `(tactic| repeat ((with_reducible refine And.intro ?_ ?_); (· walk_at "sd")))
local macro_rules | `(tactic| walk_at "ft") => `(tactic| repeat (first | assumption | exact fit_int _ _ | exact fit_str _ _ | exact fit_bl _ _ | exact fit_non _ | exact fits_nil | refine fits_cons ?_ ?_ | exact fit_ints _ (by omega) _ | refine fit_lst (by simp only [List.length_cons, List.length_nil]; omega) ?_ | refine fit_tup (by simp only [List.length_cons, List.length_nil]; omega) ?_))
local macro_rules | `(tactic| walk_at "fo") => `(tactic| repeat ((with_reducible refine And.intro ?_ ?_); (· first | exact ⟨rfl, rfl⟩ | exact ⟨rfl, rfl, Nat.le_of_ble_eq_true rfl, Nat.le_of_ble_eq_true rfl⟩ | exact size_le (by decide))))
local macro_rules | `(tactic| walk_at "lv") => `(tactic| (simp only [dCallX, dFld, dgFld, dMeth, dMethX, dMake, dMakeX, insOf, putD_nil, putD_zero, putD_succ, dRaise, dExF, wlook_hit, dSeq, dAsg, dNew, dC, dgN, dFor, dList, dVar, dIf, dAnd, dOr, dNot, dTest, dOp, dUn, dCB, a1, a2, dCons, dNil, dNeg, dEq, dNe, dAdd, dSub, dI2, dI2C, dFdiv, dMod, dLt, dLe, dGt, dGe, dDrop, dBM, tyD, appD, dIfS, dNext, dRet, dFrz, dPar, dgTup, dgCons, dgNil, dgSub, dWhile, dBrk, dCnt, dRetN, dTupI, dStrI, dLc, dYes, wipeD, dTru, truD, dNoP, dChain, dPow, dShl, dShr, dBand, dBor, dBxor, dMul, dIn, dNotIn, inG, dgN, dAug, dIAdd, onInts, onBls, dSset, max2D, min2D, sumL, allL, anyL, maxL, minL, sortedL, dRng1, dRng2, dTup, dLst, dIs, dIsNot, D.isNon, intD, absD, seqOf, dSl, dNoP, dPart, dTimes, dAndV, dOrV, dNotV, dCall, dDisp, dPairs, dgSub, dSetI, dkey, keysOf, strD, addL, storeA0, storeA, storeB0, storeB, List.length_append, List.append_assoc, List.cons_append, List.nil_append, Int.reduceEq, Int.reduceLT, Int.reduceLE, Int.reduceNeg, Int.reduceAdd, Int.reduceSub, Int.reducePow,
  List.getElem?_cons_zero, List.getElem?_cons_succ, List.set_cons_zero, List.set_cons_succ, List.length_cons, List.length_nil, List.length_map, Nat.reduceAdd, Bool.not_eq_true, Bool.not_true, Bool.not_false, if_true, if_false, Bool.false_eq_true, decide_eq_true_eq, true_and, and_true, reduceCtorEq, ite_true, ite_false, Nat.zero_le, atI0, atI1, atI2, atI3, atI4, atI5, atI6]))
def calledD (t : Bool) (r : PR.Rd) (o : List Nat) (now : Int) : D := if t = true then (PR.takeR' (PR.onR r now).2 o).1 else .lst ((PR.onR r now).1.map D.int)
def calledR (t : Bool) (r : PR.Rd) (o : List Nat) (now : Int) : PR.Rd := if t = true then (PR.takeR' (PR.onR r now).2 o).2 else (PR.onR r now).2
def callW (t : Bool) : Str := if t = true then "take" else "go"
def sp__law_called (cl : CL) : DSp := fun ds M Q => ∃ (n m : Nat) (r : PR.Rd) (t : Bool) (x : D) (o : List Nat) (now : Int), ds = [.loc n, .str (callW t), x, .int now] ∧ PR.RA (cl 0) M n m r ∧ (t = true → PR.OX M n m x o ∧ o.length ≤ 1000 ∧ octs o) ∧ r.key ≤ 65535 ∧
  ((now < r.now ∧ Q (.tup [.str "wrong", .int now]) M) ∨ (r.now ≤ now ∧ 1 ≤ r.limit ∧ now < r.bell + 300 * r.limit ∧ Q (.tup [.str "told", calledD t r o now]) (PR.wr M n m (cl 0) (calledR t r o now))))
theorem len__law_called (cl : CL) (ds : List D) (M : MM) (Q : DK) : sp__law_called cl ds M Q → ds.length = 4 := fun ⟨_, _, _, _, _, _, _, e, _⟩ => e ▸ rfl
theorem use__law_called (cl : CL) (ds : List D) (M : MM) (Q : DK) : sp__law_called cl ds M Q → u__law_called cl (sp_Reader_take cl) (sp_Reader_go_on cl) (ends M Q) (st 5 ds) M := fun ⟨n, m, r, t, x, o, now, e, h, hx, hk, hh⟩ => by
  subst e
  show u__law_called _ _ _ _ [some (.loc n), some (.str (callW t)), some x, some (.int now), none] M
  unfold u__law_called
  unfold dTryAs
  cases t with
  | true =>
    obtain ⟨hx, lo, ho⟩ := hx rfl
    refine s_ret' ?_
    show dTup _ _ _ _
    unfold dTup
    simp only [dCons, dNil, dC]
    have tt : Tst (dTest (dOp dEq (dVar 1) (dC (.str "take")))) [some (.loc n), some (.str (callW true)), some x, some (.int now), none] M true := t_val (v_op (x := .str "take") (y := .str "take") (v_var rfl) v_c fun K k => eq_str _ _ _ K k)
    refine tt _ ?_
    rw [if_pos rfl]
    refine PR.mx_rd2 (v_var rfl) h.hn (v_var (i := 2) (d := x) rfl) (v_var (i := 3) (d := .int now) rfl) ⟨n, m, r, x, o, now, rfl, h, hx, lo, ho, hk, ?_⟩
    rcases hh with ⟨h1, q⟩ | ⟨h1, h2, h3, q⟩
    · refine .inl ⟨h1, ?_⟩
      simp only [wlook_hit]
      intro a
      walk_at "ev"
      exact ⟨size_le (by decide), .all q⟩
    · exact .inr ⟨h1, h2, h3, size_le (show 2 ≤ 1000000 by decide), .all q⟩
  | false =>
    refine s_ret' ?_
    show dTup _ _ _ _
    unfold dTup
    simp only [dCons, dNil, dC]
    have tt : Tst (dTest (dOp dEq (dVar 1) (dC (.str "take")))) [some (.loc n), some (.str (callW false)), some x, some (.int now), none] M false := t_val (v_op (x := .str "go") (y := .str "take") (v_var rfl) v_c fun K k => eq_str _ _ _ K k)
    refine tt _ ?_
    rw [if_neg (by decide)]
    refine PR.mx_rd1 (v_var rfl) h.hn (v_var (i := 3) (d := .int now) rfl) ⟨n, m, r, now, rfl, h, ?_⟩
    rcases hh with ⟨h1, q⟩ | ⟨h1, h2, h3, q⟩
    · refine .inl ⟨h1, ?_⟩
      simp only [wlook_hit]
      intro a
      walk_at "ev"
      exact ⟨size_le (by decide), .all q⟩
    · exact .inr ⟨h1, h2, h3, size_le (show 2 ≤ 1000000 by decide), .all q⟩
end K81

namespace K81
open PySem L2 AX PF PQ PS
open PB hiding u__law_same use__law_same len__law_same none__law_same same_items same_tail b_same
local macro_rules | `(tactic| walk_at "ev") => `(tactic| (simp only [dCallX, dFld, dgFld, dMeth, dMethX, dMake, dMakeX, insOf, putD_nil, putD_zero, putD_succ, dRaise, dExF, wlook_hit, dSeq, dAsg, dNew, dC, dgN, dFor, dList, dVar, dIf, dAnd, dOr, dNot, dTest, dOp, dUn, dCB, a1, a2, lenD, dCons, dNil, dNeg, dEq, dNe, dIx, ixL, dAdd, dSub, dI2, dI2C, dFdiv, dMod, dLt, dLe, dGt, dGe, dDrop, dBM, tyD, appD, dIfS, dNext, dRet, dFrz, dPar, dgTup, dgCons, dgNil, dgSub, dWhile, dBrk, dCnt, dRetN, dTupI, dStrI, dLc, dYes, wipeD, dTru, truD, dNoP, dChain, dPow, dShl, dShr, dBand, dBor, dBxor, dMul, dIn, dNotIn, inG, dgN, dAug, dIAdd, onInts, onBls, dSset, max2D, min2D, sumL, allL, anyL, maxL, minL, sortedL, listN, dRng1, dRng2, dTup, dLst, dIs, dIsNot, D.isNon, intD, absD, listD, seqOf, dSl, dNoP, dPart, slD, dTimes, dAndV, dOrV, dNotV, dCall, dDisp, dPairs, dgSub, dSetI, dkey, keysOf, strD, addL, storeA0, storeA, storeB0, storeB, List.length_append, List.append_assoc, List.cons_append, List.nil_append, Int.reduceEq, Int.reduceLT, Int.reduceLE, Int.reduceNeg, Int.reduceAdd, Int.reduceSub, Int.reducePow,
  List.getElem?_cons_zero, List.getElem?_cons_succ, List.set_cons_zero, List.set_cons_succ, List.length_cons, List.length_nil, List.length_map, Nat.reduceAdd, Bool.not_eq_true, Bool.not_true, Bool.not_false, if_true, if_false, Bool.false_eq_true, decide_eq_true_eq, true_and, and_true, reduceCtorEq, ite_true, ite_false, Nat.zero_le, atI0, atI1, atI2, atI3, atI4, atI5, atI6]))
local macro_rules | `(tactic| walk_at "sd") => `(tactic| first | assumption | decide | omega | (exact size_ok (by omega)) | (exact size_le (by omega)) | (unfold TimesOk; omega) | (rw [sizeLine_eq]; decide))
local macro_rules | `(tactic| walk_at "go") => `(tactic| repeat ((with_reducible refine And.intro ?_ ?_); (· walk_at "sd")))
local macro_rules | `(tactic| walk_at "ft") => `(tactic| repeat (first | assumption | exact fit_int _ _ | exact fit_str _ _ | exact fit_bl _ _ | exact fit_non _ | exact fits_nil | refine fits_cons ?_ ?_ | exact fit_ints _ (by omega) _ | refine fit_lst (by simp only [List.length_cons, List.length_nil]; omega) ?_ | refine fit_tup (by simp only [List.length_cons, List.length_nil]; omega) ?_))
local macro_rules | `(tactic| walk_at "fo") => `(tactic| repeat ((with_reducible refine And.intro ?_ ?_); (· first | exact ⟨rfl, rfl⟩ | exact ⟨rfl, rfl, Nat.le_of_ble_eq_true rfl, Nat.le_of_ble_eq_true rfl⟩ | exact size_le (by decide))))
local macro_rules | `(tactic| walk_at "lv") => `(tactic| (simp only [dCallX, dFld, dgFld, dMeth, dMethX, dMake, dMakeX, insOf, putD_nil, putD_zero, putD_succ, dRaise, dExF, wlook_hit, dSeq, dAsg, dNew, dC, dgN, dFor, dList, dVar, dIf, dAnd, dOr, dNot, dTest, dOp, dUn, dCB, a1, a2, dCons, dNil, dNeg, dEq, dNe, dAdd, dSub, dI2, dI2C, dFdiv, dMod, dLt, dLe, dGt, dGe, dDrop, dBM, tyD, appD, dIfS, dNext, dRet, dFrz, dPar, dgTup, dgCons, dgNil, dgSub, dWhile, dBrk, dCnt, dRetN, dTupI, dStrI, dLc, dYes, wipeD, dTru, truD, dNoP, dChain, dPow, dShl, dShr, dBand, dBor, dBxor, dMul, dIn, dNotIn, inG, dgN, dAug, dIAdd, onInts, onBls, dSset, max2D, min2D, sumL, allL, anyL, maxL, minL, sortedL, dRng1, dRng2, dTup, dLst, dIs, dIsNot, D.isNon, intD, absD, seqOf, dSl, dNoP, dPart, dTimes, dAndV, dOrV, dNotV, dCall, dDisp, dPairs, dgSub, dSetI, dkey, keysOf, strD, addL, storeA0, storeA, storeB0, storeB, List.length_append, List.append_assoc, List.cons_append, List.nil_append, Int.reduceEq, Int.reduceLT, Int.reduceLE, Int.reduceNeg, Int.reduceAdd, Int.reduceSub, Int.reducePow,
  List.getElem?_cons_zero, List.getElem?_cons_succ, List.set_cons_zero, List.set_cons_succ, List.length_cons, List.length_nil, List.length_map, Nat.reduceAdd, Bool.not_eq_true, Bool.not_true, Bool.not_false, if_true, if_false, Bool.false_eq_true, decide_eq_true_eq, true_and, and_true, reduceCtorEq, ite_true, ite_false, Nat.zero_le, atI0, atI1, atI2, atI3, atI4, atI5, atI6]))
theorem toN {cs : List Int} (h : ∀ c ∈ cs, 0 ≤ c) : cs.map D.int = (cs.map Int.toNat).map nI := by
  rw [List.map_map]
  refine List.map_congr_left fun c hc => ?_
  have := h c hc
  show D.int c = D.int ((c.toNat : Nat) : Int)
  rw [Int.toNat_of_nonneg this]
theorem toOcts {cs : List Int} {n : Nat} (hl : cs.length = n) (h : ∀ c ∈ cs, 0 ≤ c ∧ c < 256) : ∃ d : List Nat, cs.map D.int = d.map nI ∧ d.length = n ∧ octs d := ⟨cs.map Int.toNat, toN fun c hc => (h c hc).1, by rw [List.length_map, hl], fun o ho => by
  obtain ⟨c, hc, rfl⟩ := List.mem_map.mp ho
  have := h c hc
  omega⟩
theorem pick3 {a b c r : Int} (r0 : 0 ≤ r) (r1 : r < 3) : ∃ w, atI [D.int a, D.int b, D.int c] r = some (.int w) ∧ (w = a ∨ w = b ∨ w = c) := by
  have : r = 0 ∨ r = 1 ∨ r = 2 := by omega
  rcases this with e | e | e <;> subst e
  · exact ⟨a, rfl, .inl rfl⟩
  · exact ⟨b, rfl, .inr (.inl rfl)⟩
  · exact ⟨c, rfl, .inr (.inr rfl)⟩
theorem bells_past (limit now : Int) (h1 : 1 ≤ limit) : ∀ (f : Nat) (b : Int), now < b + f * limit → now < b + ((PR.bellsF limit f b now).length : Int) * limit
  | 0, b, h => by simpa [PR.bellsF] using h
  | f + 1, b, h => by
    unfold PR.bellsF
    by_cases hc : b ≤ now
    · rw [if_pos hc, List.length_cons]
      have := bells_past limit now h1 f (b + limit) (by push_cast at h; grind)
      push_cast
      grind
    · rw [if_neg hc]
      simp
      omega
theorem on_bell {r : PR.Rd} {now : Int} (h1 : 1 ≤ r.limit) (h : now < r.bell + 300 * r.limit) : now < (PR.onR r now).2.bell := bells_past r.limit now h1 300 r.bell h
theorem cl_all (c : PR.Cn) : ∀ kv ∈ PR.cL c, dlook (PR.cL c) kv.1 = some kv.2 ∧ kv.2.fit 0 := by
  intro kv h
  simp only [PR.cL, List.mem_cons, List.not_mem_nil, or_false] at h
  rcases h with rfl | rfl | rfl | rfl | rfl | rfl
  · exact ⟨PR.cn_look c .fine, fit_int _ _⟩
  · exact ⟨PR.cn_look c .lost, fit_int _ _⟩
  · exact ⟨PR.cn_look c .again, fit_int _ _⟩
  · exact ⟨PR.cn_look c .far, fit_int _ _⟩
  · exact ⟨PR.cn_look c .changed, fit_int _ _⟩
  · exact ⟨PR.cn_look c .late, fit_int _ _⟩
theorem same_cn {n a b : Nat} {M : MM} {c : PR.Cn} (ha : M[a]? = some (PR.cO c)) (hb : M[b]? = some (PR.cO c)) (h : a ≠ b) (hn : 0 < n) : SameT (n + 1) M (.loc a) (.loc b) :=
  .inr (.inr (.inr ⟨a, b, PR.cL c, PR.cL c, rfl, rfl, ha, hb, h, rfl, (show 6 ≤ 1000000 by decide), fun kv hk => ⟨kv.2, (cl_all c kv hk).1, (cl_all c kv hk).1, fun od ks => SameT.fit (cl_all c kv hk).2 hn (by decide)⟩⟩))
/-- the store of a turn -/
abbrev S (cl : CL) (L : MM) (mo : MO) (r1 r2 : PR.Rd) (G : MM) : MM := (mo :: L) ++ ([PR.rO (cl 0) (L.length + 1 + 1) r1, PR.cO r1.c, PR.cO r2.c, dO (L.length + 1 + 2) r2] ++ G)
theorem S_ra (cl : CL) (L : MM) (mo : MO) (r1 r2 : PR.Rd) (G : MM) : PR.RA (cl 0) (S cl L mo r1 r2 G) (L.length + 1) (L.length + 1 + 1) r1 := ⟨by
  show ((mo :: L) ++ _)[(mo :: L).length]? = _
  rw [storeA0]; rfl, by
  show ((mo :: L) ++ _)[(mo :: L).length + 1]? = _
  rw [storeA]; rfl, by omega⟩
theorem S_oa (cl : CL) (L : MM) (mo : MO) (r1 r2 : PR.Rd) (G : MM) : OA (S cl L mo r1 r2 G) (L.length + 1 + 3) (L.length + 1 + 2) r2 := ⟨by
  show ((mo :: L) ++ _)[(mo :: L).length + 3]? = _
  rw [storeA]; rfl, by
  show ((mo :: L) ++ _)[(mo :: L).length + 2]? = _
  rw [storeA]; rfl, by omega⟩
theorem S_wr (cl : CL) (L : MM) (mo : MO) (r1 r2 r' : PR.Rd) (G : MM) : PR.wr (S cl L mo r1 r2 G) (L.length + 1) (L.length + 1 + 1) (cl 0) r' = S cl L mo r' r2 G := by
  unfold PR.wr
  show (((mo :: L) ++ _).set (mo :: L).length _).set ((mo :: L).length + 1) _ = _
  rw [storeB0, storeB]
  rfl
theorem S_wo (cl : CL) (L : MM) (mo : MO) (r1 r2 r' : PR.Rd) (G : MM) : wo (S cl L mo r1 r2 G) (L.length + 1 + 3) (L.length + 1 + 2) r' = S cl L mo r1 r' G := by
  unfold wo
  show (((mo :: L) ++ _).set ((mo :: L).length + 3) _).set ((mo :: L).length + 2) _ = _
  rw [storeB, storeB]
  rfl
structure Gd (key : Nat) (limit : Int) (r : PR.Rd) : Prop where
  key : r.key = key
  limit : r.limit = limit
  bell : r.now < r.bell
  last : ∀ l, r.last = some l → l.length ≤ 6
theorem on_good {key : Nat} {limit now : Int} {r : PR.Rd} (h : Gd key limit r) (l1 : 1 ≤ limit) (hb : now < r.bell + 300 * limit) : Gd key limit (PR.onR r now).2 := ⟨h.key, h.limit, on_bell (by rw [h.limit]; exact l1) (by rw [h.limit]; exact hb), h.last⟩
theorem take_good {key : Nat} {limit : Int} {r : PR.Rd} {o : List Nat} (h : Gd key limit r) (l1 : 1 ≤ limit) : Gd key limit (PR.takeR' r o).2 := by
  have cnt : ∀ (r : PR.Rd) (w : PR.Wd), Gd key limit r → Gd key limit (r.cnt w) := fun r w h => ⟨h.key, h.limit, h.bell, h.last⟩
  unfold PR.takeR'
  split
  · rename_i hr
    unfold PR.right' at hr
    rw [Bool.and_eq_true, decide_eq_true_eq] at hr
    have t1 : Gd key limit (r.take1 o) := ⟨h.key, h.limit, by show r.now < r.now + r.limit; have := h.limit; omega, fun l hl => by
      cases hl
      rw [List.length_drop]
      omega⟩
    unfold PR.takeR
    split
    · exact cnt _ _ h
    · split
      · exact cnt _ _ t1
      · split
        · exact cnt _ _ h
        · split
          · exact cnt _ _ t1
          · split
            · exact cnt _ _ t1
            · exact cnt _ _ ⟨h.key, h.limit, h.bell, h.last⟩
  · exact cnt _ _ h
theorem called_good {key : Nat} {limit now : Int} {r : PR.Rd} {o : List Nat} (t : Bool) (h : Gd key limit r) (l1 : 1 ≤ limit) (hb : now < r.bell + 300 * limit) : Gd key limit (calledR t r o now) := by
  unfold calledR
  split
  · exact take_good (on_good h l1 hb) l1
  · exact on_good h l1 hb
theorem S_app (cl : CL) (L : MM) (mo : MO) (r1 r2 : PR.Rd) (G : MM) (X : MO) : S cl L mo r1 r2 G ++ [X] = S cl L mo r1 r2 (G ++ [X]) := by
  simp [List.append_assoc]
theorem S_len (cl : CL) (L : MM) (mo : MO) (r1 r2 : PR.Rd) (G : MM) : (S cl L mo r1 r2 G).length = L.length + 1 + 4 + G.length := by
  simp
  omega
theorem S_at (cl : CL) (L : MM) (mo : MO) (r1 r2 : PR.Rd) (G : MM) (X : MO) : (S cl L mo r1 r2 (G ++ [X]))[L.length + 1 + 4 + G.length]? = some X := by
  rw [← S_app, ← S_len cl L mo r1 r2 G]
  exact storeL _ _
theorem S_set (cl : CL) (L : MM) (mo : MO) (r1 r2 : PR.Rd) (G : MM) (X Y : MO) : (S cl L mo r1 r2 (G ++ [X])).set (L.length + 1 + 4 + G.length) Y = S cl L mo r1 r2 (G ++ [Y]) := by
  rw [← S_app, ← S_len cl L mo r1 r2 G, storeS, S_app]
theorem pick7 {r a b c d e f g : Int} (r0 : 0 ≤ r) (r1 : r < 7) : ∃ w, atI [D.int a, .int b, .int c, .int d, .int e, .int f, .int g] r = some (.int w) ∧ (w = a ∨ w = b ∨ w = c ∨ w = d ∨ w = e ∨ w = f ∨ w = g) := by
  have : r = 0 ∨ r = 1 ∨ r = 2 ∨ r = 3 ∨ r = 4 ∨ r = 5 ∨ r = 6 := by omega
  rcases this with h | h | h | h | h | h | h <;> subst h <;> refine ⟨_, rfl, ?_⟩ <;> simp
theorem cons_val {e : DE} {ua : DA} {ds : DEnv} {M : MM} {x : D} {Q : List D → MM → Prop} (h : Val e ds M x) (k : ua ds M fun xs M2 => Q (x :: xs) M2) : dCons e ua ds M Q := h _ k
theorem cons_m0 {C : Addr} {n m : Nat} {r : PR.Rd} {sp : DSp} {e0 : DE} {ua : DA} {ds : DEnv} {M : MM} {Q : List D → MM → Prop} (h0 : Val e0 ds M (.loc n)) (hn : M[n]? = some (PR.rO C m r)) (k : sp [.loc n] M fun x M1 => ua ds M1 fun xs M2 => Q (x :: xs) M2) : dCons (dMeth C ns_Reader sp e0 dNil) ua ds M Q := h0 _ ⟨PR.ins_rO hn, k⟩
theorem lst_of {ua : DA} {ds : DEnv} {M : MM} {K : DK} (k : ua ds M fun xs M1 => xs.length ≤ sizeLine ∧ K (.lst xs) M1) : dLst ua ds M K := k
theorem same4 {n : Nat} {M : MM} {a b c d a' b' c' d' : D} (h1 : SameT n M a a') (h2 : SameT n M b b') (h3 : SameT n M c c') (h4 : SameT n M d d') : SameT (n + 1) M (.lst [a, b, c, d]) (.lst [a', b', c', d']) :=
  .inr (.inl ⟨_, _, rfl, rfl, rfl, (show 4 ≤ 1000000 by decide), fun i x y hx hy => by
    match i, hx, hy with
    | 0, hx, hy => cases hx; cases hy; exact h1
    | 1, hx, hy => cases hx; cases hy; exact h2
    | 2, hx, hy => cases hx; cases hy; exact h3
    | 3, hx, hy => cases hx; cases hy; exact h4
    | i + 4, hx, hy => cases hx⟩)
theorem app_val {e e2 : DE} {ds : DEnv} {M : MM} {n : Nat} {xs : List D} {y : D} {DD : DEnds} (h : Val e ds M (.loc n)) (hy : Val e2 ds M y) (hm : M[n]? = some (.lst xs)) (hl : xs.length < sizeLine) (k : DD.nx ds (M.set n (.lst (xs ++ [y])))) : dDrop (dBM "list" appD e (dCons e2 dNil)) DD ds M := s_drop (h _ ⟨by
  unfold tyD
  simp only [hm], hy _ (by
  simp only [dNil]
  unfold appD
  simp only [hm]
  exact ⟨hl, k⟩)⟩)
/-- what is shown is spoilt -/
theorem spoil {cl : CL} {L : MM} {mo : MO} {r' : PR.Rd} {G : MM} {DD : DEnds} {ds : DEnv} {a b c : D} (h : ds[20]? = some (some (.lst [a, b, c, .loc (L.length + 1 + 4 + G.length)]))) (k : ∀ X, DD.nx ds (S cl L mo r' r' (G ++ [X]))) :
    dAsg (dUn dNeg (dC (.int 1))) (dgSub (dOp dIx (dVar 20) (dC (.int 3))) (dC (.str "fine"))) DD ds (S cl L mo r' r' (G ++ [PR.cO r'.c])) := by
  have ht := S_at cl L mo r' r' G (PR.cO r'.c)
  refine asg_sub (v := .int (-1)) (o := .loc (L.length + 1 + 4 + G.length)) (i := .str "fine") (fun Q q => q) (v_ixS (v_var h) v_c rfl atI3) v_c ?_
  unfold dSetI
  simp only [ht]
  unfold PR.cO
  simp only [dkey]
  refine ⟨show 6 < sizeLine from by unfold sizeLine; omega, ?_⟩
  rw [show (PR.cO r'.c) = MO.dic (PR.cL r'.c) from rfl] at ht
  have := S_set cl L mo r' r' G (PR.cO r'.c)
  unfold PR.cO at this
  rw [this]
  exact k _
theorem pick9 {r x : Int} (r0 : 0 ≤ r) (r1 : r < 9) : ∃ w, atI [D.int 1, .int 1, .int 1, .int 1, .int 0, .int 2, .int 3, .int 14, .int x] r = some (.int w) := by
  have : r = 0 ∨ r = 1 ∨ r = 2 ∨ r = 3 ∨ r = 4 ∨ r = 5 ∨ r = 6 ∨ r = 7 ∨ r = 8 := by omega
  rcases this with h | h | h | h | h | h | h | h | h <;> subst h <;> exact ⟨_, rfl⟩
theorem cr_fit {r : PR.Rd} {o : List Nat} : (PR.takeR' r o).1.fit 3 := by
  unfold PR.takeR'
  have t2 : ∀ (a : Str) (i : Int), (D.tup [.str a, .int i]).fit 3 := fun a i => fit_tup (by simp) (fits_cons (fit_str _ _) (fits_cons (fit_int _ _) fits_nil))
  split
  · unfold PR.takeR
    split
    · exact fit_str _ _
    · split
      · exact fit_str _ _
      · split
        · exact fit_str _ _
        · split
          · exact fit_str _ _
          · split
            · exact t2 _ _
            · exact t2 _ _
  · exact fit_str _ _
theorem told_fit {t : Bool} {r : PR.Rd} {o : List Nat} {now : Int} : (D.tup [.str "told", calledD t r o now]).fit 5 := fit_tup (by simp) (fits_cons (fit_str _ _) (fits_cons (by
  unfold calledD
  split
  · exact cr_fit.mono (by decide)
  · exact fit_ints _ (by have := PR.bells_len r.limit 300 r.bell now; show (PR.bellsF _ _ _ _).length ≤ _; omega) 3) fits_nil))
theorem seq_at {M : MM} {n : Nat} {xs : List D} (h : M[n]? = some (.lst xs)) : seqOf M (.loc n) = some xs := by
  unfold seqOf
  simp only [h]
theorem cutb (o : List Nat) : cutD (o.map nI) none (some (-1)) = (o.dropLast).map nI := by
  rw [cut_front, List.map_dropLast]
theorem cut1 (o : List Nat) : cutD (o.map nI) (some 1) none = (o.drop 1).map nI := by
  rw [show (some 1 : Option Int) = some ((1 : Nat) : Int) from rfl, cut_drop, List.map_drop]
theorem pickL {r : Int} (r0 : 0 ≤ r) (r1 : r < 6) (oc : List Nat) (lo : oc.length ≤ 8) (l2 : 1 ≤ oc.length) (oo : octs oc) : ∃ o2 : List Nat, atI [D.lst [], D.lst [D.int 1], D.lst [D.int 0, D.int 15], D.lst (cutD (oc.map nI) none (some (-1))), D.lst (oc.map nI ++ [D.int 0]), D.lst (D.int 5 :: cutD (oc.map nI) (some 1) none)] r = some (.lst (o2.map nI)) ∧ o2.length ≤ 9 ∧ octs o2 := by
  rw [cutb, cut1]
  have : r = 0 ∨ r = 1 ∨ r = 2 ∨ r = 3 ∨ r = 4 ∨ r = 5 := by omega
  rcases this with h | h | h | h | h | h <;> subst h
  · exact ⟨[], rfl, by decide, fun o h => by cases h⟩
  · exact ⟨[1], rfl, by decide, fun o h => by simp at h; omega⟩
  · exact ⟨[0, 15], rfl, by decide, fun o h => by simp at h; omega⟩
  · exact ⟨oc.dropLast, rfl, by rw [List.length_dropLast]; omega, fun o h => oo o (List.dropLast_subset _ h)⟩
  · exact ⟨oc ++ [0], by rw [List.map_append]; rfl, by simp; omega, fun o h => by
      rcases List.mem_append.mp h with z | z
      · exact oo o z
      · simp at z; omega⟩
  · exact ⟨5 :: oc.drop 1, rfl, by simp; omega, fun o h => by
      rcases List.mem_cons.mp h with z | z
      · omega
      · exact oo o (List.mem_of_mem_drop z)⟩
theorem pick6 {r : Int} (r0 : 0 ≤ r) (r1 : r < 6) : ∃ w, atI [D.int 0, .int 1, .int 2, .int 5, .int 13, .int 14] r = some (.int w) := by
  have : r = 0 ∨ r = 1 ∨ r = 2 ∨ r = 3 ∨ r = 4 ∨ r = 5 := by omega
  rcases this with e | e | e | e | e | e <;> subst e <;> exact ⟨_, rfl⟩
theorem use_law (cl : CL) (ds : List D) (M : MM) (Q : DK) : spLawD 63 ds M Q → u_law cl spDraws spDraw (sp__law_new_reader cl) (sp_Reader___init__ cl) sp__law_guarded (sp__law_reader_takes cl) (sp__law_called cl) (sp__law_reader_on cl) (sp_Reader_tally cl) (sp_Reader_due cl) (sp_Reader_data cl) (spSameS 8) (ends M Q) (st 21 ds) M := fun ⟨ns, e, hl, eM, q⟩ => by
  subst e; subst eM
  show u_law _ _ _ _ _ _ _ _ _ _ _ _ _ _ [some (.scr (ns.map D.int)), none, none, none, none, none, none, none, none, none, none, none, none, none, none, none, none, none, none, none, none] []
  unfold u_law
  (try dsimp only); refine seq_go fun N hN => ?_; walk_at "ev"
  refine ⟨ns, rfl, fun mo hmo => ?_⟩
  refine hN _ _ ?_; clear hN N
  refine seq_go fun N hN => ?_
  refine for_rng (n := 2) v_c (by decide) ?_
  refine rng0_inv 2 (fun i ds M' => ∃ (mo : MO) (L : MM) (y2 y3 y4 y5 y6 y7 y8 y9 z0 z1 z2 z3 z4 z5 z6 z7 z8 z9 w0 : Option D), ds = [some (.scr (ns.map D.int)), some (.loc 0), y2, y3, y4, y5, y6, y7, y8, y9, z0, z1, z2, z3, z4, z5, z6, z7, z8, z9, w0] ∧ M' = mo :: L ∧ IsDraws mo)
    ⟨mo, [], _, _, _, _, _, _, _, _, _, _, _, _, _, _, _, _, _, _, _, rfl, rfl, hmo⟩ ?_ ?_
  · rintro i hi ds M' ⟨mo, L, y2, y3, y4, y5, y6, y7, y8, y9, z0, z1, z2, z3, z4, z5, z6, z7, z8, z9, w0, rfl, rfl, hmo⟩ K hK
    refine ⟨trivial, ?_⟩
    refine seq_go fun N hN => ?_
    unfold dPar3
    walk_at "ev"
    refine ⟨0, 65536, mo, rfl, rfl, hmo, by decide, by decide, fun key mo k0 k1 hmo => ?_⟩
    obtain ⟨key, rfl⟩ := Int.eq_ofNat_of_zero_le k0
    have hkey : key ≤ 65535 := by omega
    simp only [List.set_cons_zero]
    refine ⟨size_le (by decide), 0, 6, mo, rfl, rfl, hmo, by decide, by decide, fun r mo r0 r1 hmo => ?_⟩
    obtain ⟨most, em⟩ := pick6 r0 r1
    simp only [em, List.set_cons_zero]
    refine ⟨size_le (by decide), 0, 3, mo, rfl, rfl, hmo, by decide, by decide, fun r mo r0 r1 hmo => ?_⟩
    obtain ⟨limit, el, hlim⟩ := pick3 (a := 1) (b := 10) (c := 100) r0 r1
    simp only [el, List.set_cons_zero]
    have l1 : 1 ≤ limit := by omega
    refine hN _ _ ?_; clear hN N
    refine seq_go fun N hN => ?_
    walk_at "ev"
    refine ⟨L.length + 1, key, most, limit, rfl, storeL (mo :: L) _, rfl, key, most, limit, rfl, ?_⟩
    have e1 : ((mo :: (L ++ [MO.ins (cl 0) []])).set (L.length + 1) (PR.rO (cl 0) (mo :: (L ++ [MO.ins (cl 0) []])).length (PR.rd0 key most limit)) ++ [PR.cO PR.cn0]).length = L.length + 1 + 2 := by simp
    have e2 : (mo :: (L ++ [MO.ins (cl 0) []])).length = L.length + 1 + 1 := by simp
    rw [e1, e2, List.set_cons_succ, storeS]
    rw [show mo :: (L ++ [PR.rO (cl 0) (L.length + 1 + 1) (PR.rd0 key most limit)]) ++ [PR.cO PR.cn0] ++ [PR.cO PR.cn0, dO (L.length + 1 + 2) (PR.rd0 key most limit)] = S cl L mo (PR.rd0 key most limit) (PR.rd0 key most limit) [] by simp [PR.rd0]]
    have gd0 : Gd key limit (PR.rd0 key most limit) := ⟨rfl, rfl, by show (0 : Int) < limit; omega, fun l h => by cases h⟩
    generalize PR.rd0 key most limit = r0 at gd0 ⊢
    show N [some (.scr (ns.map D.int)), some (.loc 0), some (.int (i : Int)), some (nI key), some (.int most), some (.int limit), some (.loc (L.length + 1)), some (.loc (L.length + 1 + 3)), y8, y9, z0, z1, z2, z3, z4, z5, z6, z7, z8, z9, w0] _
    refine hN _ _ ?_; clear hN N
    unfold dFor
    walk_at "ev"
    refine ⟨0, 41, mo, rfl, rfl, hmo, by decide, by decide, fun many mo m0 m1 hmo => ?_⟩
    simp only [List.set_cons_zero]
    obtain ⟨mn, hmn⟩ : ∃ mn : Nat, (20 + many).toNat = mn := ⟨_, rfl⟩
    rw [hmn]
    refine ⟨by omega, by omega, ?_⟩
    refine rng0_inv mn (fun k ds M' => ∃ (mo : MO) (r : PR.Rd) (G : MM) (y8 y9 z0 z1 z2 z3 z4 z5 z6 z7 z8 z9 w0 : Option D), ds = [some (.scr (ns.map D.int)), some (.loc 0), some (.int (i : Int)), some (nI key), some (.int most), some (.int limit), some (.loc (L.length + 1)), some (.loc (L.length + 1 + 3)), y8, y9, z0, z1, z2, z3, z4, z5, z6, z7, z8, z9, w0] ∧ M' = S cl L mo r r G ∧ IsDraws mo ∧ Gd key limit r)
      ⟨mo, r0, [], _, _, _, _, _, _, _, _, _, _, _, _, _, rfl, rfl, hmo, gd0⟩ ?_ ?_
    · rintro k hk ds0 M0 ⟨mo, r, G, y8, y9, z0, z1, z2, z3, z4, z5, z6, z7, z8, z9, w0, rfl, rfl, hmo, gd⟩ K2 hK2
      refine ⟨trivial, ?_⟩
      -- now
      refine seq_go fun N hN => s_asg' ?_
      refine v_own (i := 7) (n := L.length + 1 + 3) rfl (S_oa cl L mo r r G).hn l_now _ ?_
      walk_at "ev"
      refine ⟨by unfold TimesOk; omega, size_le (by decide), 0, 7, mo, rfl, rfl, hmo, by decide, by decide, fun r5 mo r6 r7 hmo => ?_⟩
      obtain ⟨w, ew, hw⟩ := pick7 (a := 0) (b := 0) (c := 1) (d := limit - 1) (e := limit) (f := limit + 1) (g := 3 * limit) r6 r7
      simp only [ew, List.set_cons_zero]
      obtain ⟨now, hnow⟩ : ∃ n : Int, n = r.now + w := ⟨_, rfl⟩
      rw [← hnow]
      have gk := gd.key
      have gl := gd.limit
      have gb := gd.bell
      have hn0 : r.now ≤ now := by omega
      have hn1 : now < r.bell + 300 * limit := by omega
      have hn2 : now < r.bell + 300 * r.limit := by omega
      have l2 : 1 ≤ r.limit := by omega
      refine hN _ _ ?_; clear hN N
      (try dsimp only); refine seq_go fun N hN => ?_; walk_at "ev"
      refine ⟨0, 10, mo, rfl, rfl, hmo, by decide, by decide, fun kind mo kd0 kd1 hmo => ?_⟩
      simp only [List.set_cons_zero]
      refine hN _ _ ?_; clear hN N
      refine seq_go fun N hN => ?_
      -- the end of a turn
      have fin : ∀ (mo : MO) (r' : PR.Rd) (G' : MM) (d : D) (a1 a2 a3 a4 a5 a6 a7 a8 : Option D), IsDraws mo → Gd key limit r' → d.fit 5 → N [some (.scr (ns.map D.int)), some (.loc 0), some (.int (i : Int)), some (nI key), some (.int most), some (.int limit), some (.loc (L.length + 1)), some (.loc (L.length + 1 + 3)), some (.int (k : Int)), some (.int now), some (.int kind), a1, a2, a3, a4, a5, a6, some d, some d, a7, a8] (S cl L mo r' r' G') := fun mo r' G' d a1 a2 a3 a4 a5 a6 a7 a8 hmo gd' df => by
        refine hN _ _ ?_
        clear hN N
        refine seq_go fun N hN => s_asg' ?_
        have hR := S_ra cl L mo r' r' G'
        have hO := S_oa cl L mo r' r' G'
        rcases hl2 : r'.last with _ | l
        · refine lst_of (cons_val (v_var rfl) (cons_m0 (v_var rfl) hR.hn ⟨L.length + 1, _, r', rfl, hR.hn, .inl ⟨hl2, cons_m0 (v_var rfl) hR.hn ⟨L.length + 1, _, r', rfl, hR.hn, cons_m0 (v_var rfl) hR.hn ⟨L.length + 1, _, r', rfl, hR, ?_⟩⟩⟩⟩))
          rw [S_app, S_len]
          refine ⟨size_le (show 4 ≤ 1000000 by decide), ?_⟩
          have hR2 := S_ra cl L mo r' r' (G' ++ [PR.cO r'.c])
          have hO2 := S_oa cl L mo r' r' (G' ++ [PR.cO r'.c])
          have ht := S_at cl L mo r' r' G' (PR.cO r'.c)
          refine hN _ _ ?_
          clear hN N
          have hT : SameT 8 (S cl L mo r' r' (G' ++ [PR.cO r'.c])) (.lst [d, .non, .int r'.bell, .loc (L.length + 1 + 4 + G'.length)]) (.lst [d, PR.oL r'.last, .int r'.bell, .loc (L.length + 1 + 2)]) := by
            rw [hl2]
            exact same4 (SameT.fit df (by decide) (by decide)) (SameT.fit (fit_non 0) (by decide) (by decide)) (SameT.fit (fit_int _ 0) (by decide) (by decide)) (same_cn ht hO2.hm (by omega) (by decide))
          refine seq_go fun N hN => if0 (t_not (t_val (v_call2 (v_var (i := 20) rfl) (v_lst4 (v_var (i := 18) (d := d) rfl) (v_own (i := 7) rfl hO2.hn l_data) (v_own (i := 7) rfl hO2.hn l_bell) (v_own (i := 7) rfl hO2.hn l_counts)) fun K k => ⟨_, _, rfl, .inr ⟨hT, k⟩⟩))) (hN _ _ ?_)
          clear hN N
          refine seq_go fun N hN => spoil (r' := r') (G := G') rfl fun X => hN _ _ ?_
          clear hN N
          refine if0 (t_val (v_notN (d := .non) (v_ixS (v_var (i := 20) rfl) (v_c (d := .int 1)) rfl atI1))) ?_
          exact hK2 _ _ ⟨mo, r', _, _, _, _, _, _, _, _, _, _, _, _, _, _, rfl, rfl, hmo, gd'⟩
        · have ll := gd'.last l hl2
          refine lst_of (cons_val (v_var rfl) (cons_m0 (v_var rfl) hR.hn ⟨L.length + 1, _, r', rfl, hR.hn, .inr ⟨l, hl2, ?_⟩⟩))
          rw [S_app, S_len]
          have hR1 := S_ra cl L mo r' r' (G' ++ [.lst (l.map nI)])
          refine cons_m0 (v_var rfl) hR1.hn ⟨L.length + 1, _, r', rfl, hR1.hn, cons_m0 (v_var rfl) hR1.hn ⟨L.length + 1, _, r', rfl, hR1, ?_⟩⟩
          rw [S_app, S_len]
          refine ⟨size_le (show 4 ≤ 1000000 by decide), ?_⟩
          have hO2 := S_oa cl L mo r' r' (G' ++ [.lst (l.map nI)] ++ [PR.cO r'.c])
          have ht := S_at cl L mo r' r' (G' ++ [.lst (l.map nI)]) (PR.cO r'.c)
          have hd : ∀ X, (S cl L mo r' r' (G' ++ [.lst (l.map nI)] ++ [X]))[L.length + 1 + 4 + G'.length]? = some (.lst (l.map nI)) := fun X => by
            rw [← S_app, List.getElem?_append_left (by rw [S_len]; simp)]
            exact S_at cl L mo r' r' G' _
          refine hN _ _ ?_
          clear hN N
          have hT : SameT 8 (S cl L mo r' r' (G' ++ [.lst (l.map nI)] ++ [PR.cO r'.c])) (.lst [d, .loc (L.length + 1 + 4 + G'.length), .int r'.bell, .loc (L.length + 1 + 4 + (G' ++ [MO.lst (l.map nI)]).length)]) (.lst [d, PR.oL r'.last, .int r'.bell, .loc (L.length + 1 + 2)]) := by
            rw [hl2]
            refine same4 (SameT.fit df (by decide) (by decide)) ?_ (SameT.fit (fit_int _ 0) (by decide) (by decide)) (same_cn ht hO2.hm (by simp; omega) (by decide))
            refine .inr (.inl ⟨l.map nI, l.map nI, ?_, rfl, rfl, by simp; omega, fun i x y hx hy => ?_⟩)
            · unfold seqOf
              simp only [hd]
            · rw [hx] at hy
              cases hy
              rw [List.getElem?_map] at hx
              obtain ⟨z, _, rfl⟩ := Option.map_eq_some_iff.mp hx
              exact SameT.fit (fit_int _ 0) (by decide) (by decide)
          refine seq_go fun N hN => if0 (t_not (t_val (v_call2 (v_var (i := 20) rfl) (v_lst4 (v_var (i := 18) (d := d) rfl) (v_own (i := 7) rfl hO2.hn l_data) (v_own (i := 7) rfl hO2.hn l_bell) (v_own (i := 7) rfl hO2.hn l_counts)) fun K k => ⟨_, _, rfl, .inr ⟨hT, k⟩⟩))) (hN _ _ ?_)
          clear hN N
          refine seq_go fun N hN => spoil (r' := r') (G := G' ++ [.lst (l.map nI)]) rfl fun X => hN _ _ ?_
          clear hN N
          have v1 : Val (dOp dIx (dVar 20) (dC (.int 1))) [some (.scr (ns.map D.int)), some (.loc 0), some (.int (i : Int)), some (nI key), some (.int most), some (.int limit), some (.loc (L.length + 1)), some (.loc (L.length + 1 + 3)), some (.int (k : Int)), some (.int now), some (.int kind), a1, a2, a3, a4, a5, a6, some d, some d, a7, some (.lst [d, .loc (L.length + 1 + 4 + G'.length), .int r'.bell, .loc (L.length + 1 + 4 + (G' ++ [MO.lst (l.map nI)]).length)])] (S cl L mo r' r' (G' ++ [.lst (l.map nI)] ++ [X])) (.loc (L.length + 1 + 4 + G'.length)) := v_ixS (v_var (i := 20) rfl) v_c rfl atI1
          refine if1 (t_val (v_notN v1)) (app_val v1 v_c (hd X) (size_ok (by rw [List.length_map]; omega)) ?_)
          have eW : (S cl L mo r' r' (G' ++ [MO.lst (l.map nI)] ++ [X])).set (L.length + 1 + 4 + G'.length) (MO.lst (l.map nI ++ [D.int 7])) = S cl L mo r' r' (G' ++ [MO.lst (l.map nI ++ [D.int 7])] ++ [X]) := by
            rw [← S_app cl L mo r' r' (G' ++ [MO.lst (l.map nI)]) X, List.set_append_left _ _ (by rw [S_len]; simp), S_set, S_app]
          refine eW.symm ▸ ?_
          exact hK2 _ _ ⟨mo, r', _, _, _, _, _, _, _, _, _, _, _, _, _, _, rfl, rfl, hmo, gd'⟩
      clear hN
      have t8 : Tst (dTest (dOp dLt (dVar 10) (dC (.int 8)))) [some (.scr (ns.map D.int)), some (.loc 0), some (.int (i : Int)), some (nI key), some (.int most), some (.int limit), some (.loc (L.length + 1)), some (.loc (L.length + 1 + 3)), some (.int (k : Int)), some (.int now), some (.int kind), z1, z2, z3, z4, z5, z6, z7, z8, z9, w0] (S cl L mo r r G) (decide (kind < 8)) := t_val (v_lt (v_var rfl) v_c)
      have te : Tst (dTest (dOp dEq (dVar 10) (dC (.int 8)))) [some (.scr (ns.map D.int)), some (.loc 0), some (.int (i : Int)), some (nI key), some (.int most), some (.int limit), some (.loc (L.length + 1)), some (.loc (L.length + 1 + 3)), some (.int (k : Int)), some (.int now), some (.int kind), z1, z2, z3, z4, z5, z6, z7, z8, z9, w0] (S cl L mo r r G) (decide (kind = 8)) := t_val (v_eqI (v_var rfl) v_c)
      have hR := S_ra cl L mo r r G
      by_cases c8 : kind < 8
      · rw [decide_eq_true c8] at t8
        refine if1 t8 ?_
        clear t8 te
        -- counter
        have vcn := v_own (i := 7) (ds := [some (.scr (ns.map D.int)), some (.loc 0), some (.int (i : Int)), some (nI key), some (.int most), some (.int limit), some (.loc (L.length + 1)), some (.loc (L.length + 1 + 3)), some (.int (k : Int)), some (.int now), some (.int kind), z1, z2, z3, z4, z5, z6, z7, z8, z9, w0]) rfl (S_oa cl L mo r r G).hn l_counter
        obtain ⟨la, vla⟩ : ∃ la : Int, Val (dIf (dTest (dOp dIs (dOp dIx (dVar 7) (dC (.str "counter"))) (dC .non))) (dC (.int 0)) (dOp dIx (dVar 7) (dC (.str "counter")))) [some (.scr (ns.map D.int)), some (.loc 0), some (.int (i : Int)), some (nI key), some (.int most), some (.int limit), some (.loc (L.length + 1)), some (.loc (L.length + 1 + 3)), some (.int (k : Int)), some (.int now), some (.int kind), z1, z2, z3, z4, z5, z6, z7, z8, z9, w0] (S cl L mo r r G) (.int la) := by
          rcases hc : r.cn with _ | c
          · rw [hc] at vcn
            exact ⟨0, v_if (b := true) (d2 := .non) (t_val (v_isN vcn)) (fun _ => v_c) (fun h => by cases h)⟩
          · rw [hc] at vcn
            exact ⟨c, v_if (b := false) (d1 := .non) (t_val (v_isN vcn)) (fun h => by cases h) fun _ => vcn⟩
        refine seq_go fun N hN => asg vla (hN _ _ ?_)
        clear hN N vla vcn
        refine seq_go fun N hN => ?_
        walk_at "ev"
        refine ⟨0, 15, mo, rfl, rfl, hmo, by decide, by decide, fun x mo x0 x1 hmo => ?_⟩
        simp only [List.set_cons_zero]
        refine ⟨size_le (by decide), 0, 9, mo, rfl, rfl, hmo, by decide, by decide, fun r5 mo r6 r7 hmo => ?_⟩
        simp only [List.set_cons_zero]
        obtain ⟨w2, ew2⟩ := pick9 (x := x) r6 r7
        simp only [ew2]
        obtain ⟨ct, hct⟩ : ∃ ct : Nat, (la + w2) % 15 = ct := ⟨((la + w2) % 15).toNat, by omega⟩
        have ct14 : ct ≤ 14 := by omega
        rw [hct]
        refine hN _ _ ?_; clear hN N
        -- data
        refine seq_go fun N hN => s_asg' ?_
        walk_at "ev"
        refine ⟨0, 7, mo, rfl, rfl, hmo, by decide, by decide, fun n mo n0 n1 hmo => ?_⟩
        obtain ⟨n, rfl⟩ := Int.eq_ofNat_of_zero_le n0
        refine ⟨by omega, by omega, ?_⟩
        rw [Int.toNat_natCast]
        refine lc_draws (P := fun c => 0 ≤ c ∧ c < 256) (j := 0) (M := S cl L mo r r G) rfl hmo (by omega) (fun k hk mo hmo K k' => ?_) fun cs mo hcl hco hmo => ?_
        · walk_at "ev"
          refine ⟨0, 256, mo, rfl, rfl, hmo, by decide, by decide, fun c mo c0 c1 hmo => ?_⟩
          exact k' c mo ⟨c0, c1⟩ hmo
        obtain ⟨data, ed, dl, od⟩ := toOcts hcl hco
        rw [ed, show (S cl L _ r r G).set 0 mo = S cl L mo r r G from rfl]
        clear hcl hco ed cs
        refine hN _ _ ?_; clear hN N
        -- octets
        (try dsimp only); refine seq_go fun N hN => ?_; walk_at "ev"
        refine ⟨0, 8, mo, rfl, rfl, hmo, by decide, by decide, fun x mo x0 x1 hmo => ?_⟩
        simp only [List.set_cons_zero]
        have og : ∀ key2, key2 ≤ 65535 → octs (gF data ct key2) := fun key2 hk2 o ho => by
          rcases List.mem_cons.mp ho with z | z
          · rw [z]
            exact xor_lt (crcS_lt (by decide) (octs_body od ct14 hk2)) (by decide)
          · rcases List.mem_cons.mp z with z | z
            · omega
            · exact od o z
        have go : ∀ (oc : List Nat), oc.length = data.length + 2 → octs oc → N [some (.scr (ns.map D.int)), some (.loc 0), some (.int (i : Int)), some (nI key), some (.int most), some (.int limit), some (.loc (L.length + 1)), some (.loc (L.length + 1 + 3)), some (.int (k : Int)), some (.int now), some (.int kind), some (.int la), some (.int (ct : Int)), some (.lst (data.map nI)), z4, some (.lst (oc.map nI)), z6, z7, z8, z9, w0] (S cl L mo r r G) := fun oc lo oo => by
          refine hN _ _ ?_
          clear hN N
          refine seq_go fun N hN => ?_
          walk_at "ev"
          refine ⟨0, 8, mo, rfl, rfl, hmo, by decide, by decide, fun x mo x0 x1 hmo => ?_⟩
          simp only [List.set_cons_zero]
          have go2 : ∀ (mo : MO) (oc : List Nat), IsDraws mo → oc.length ≤ 9 → octs oc → N [some (.scr (ns.map D.int)), some (.loc 0), some (.int (i : Int)), some (nI key), some (.int most), some (.int limit), some (.loc (L.length + 1)), some (.loc (L.length + 1 + 3)), some (.int (k : Int)), some (.int now), some (.int kind), some (.int la), some (.int (ct : Int)), some (.lst (data.map nI)), z4, some (.lst (oc.map nI)), z6, z7, z8, z9, w0] (S cl L mo r r G) := fun mo oc hmo lo oo => by
            refine hN _ _ ?_
            clear hN N
            -- given
            (try dsimp only); refine seq_go fun N hN => ?_; walk_at "ev"
            rw [show L.length + (G.length + 1 + 1 + 1 + 1) + 1 = L.length + 1 + 4 + G.length by omega]
            refine hN _ _ ?_; clear hN N
            refine seq_go fun N hN => ?_
            walk_at "ev"
            have hR1 := S_ra cl L mo r r (G ++ [.lst (oc.map nI)])
            have hg := S_at cl L mo r r G (.lst (oc.map nI))
            refine ⟨L.length + 1, L.length + 1 + 1, r, true, .loc (L.length + 1 + 4 + G.length), oc, now, rfl, hR1, fun _ => ⟨⟨seq_at hg, fun k hk => by cases hk; omega⟩, by omega, oo⟩, by omega, .inr ⟨hn0, l2, hn2, ?_⟩⟩
            have eO := S_wr cl L mo r r (calledR true r oc now) (G ++ [.lst (oc.map nI)])
            refine eO.symm ▸ ?_
            refine ⟨L.length + 1 + 3, L.length + 1 + 2, r, oc, now, rfl, S_oa cl L mo (calledR true r oc now) r (G ++ [.lst (oc.map nI)]), by omega, oo, by omega, l2, hn2, size_le (show 2 ≤ 1000000 by decide), ?_⟩
            have eW := S_wo cl L mo (calledR true r oc now) r (calledR true r oc now) (G ++ [.lst (oc.map nI)])
            refine hN _ _ ?_
            clear hN N
            have gd' := called_good (o := oc) true gd l1 hn1
            show dDrop _ _ _ (wo (S cl L mo (calledR true r oc now) r (G ++ [.lst (oc.map nI)])) (L.length + 1 + 3) (L.length + 1 + 2) (calledR true r oc now))
            rw [S_wo]
            refine app_val (v_var (i := 16) rfl) v_c (S_at cl L mo _ _ G _) (size_ok (by rw [List.length_map]; omega)) ?_
            have eX := S_set cl L mo (calledR true r oc now) (calledR true r oc now) G (.lst (oc.map nI)) (.lst (oc.map nI ++ [D.int 3]))
            exact eX.symm ▸ fin mo (calledR true r oc now) _ (.tup [.str "told", calledD true r oc now]) _ _ _ _ _ _ _ _ hmo gd' told_fit
          by_cases hx : (0 : Int) < x
          · refine (show (if (0 : Int) < x then _ else _) from ?_)
            rw [if_pos hx]
            exact go2 mo oc hmo (by omega) oo
          · refine (show (if (0 : Int) < x then _ else _) from ?_)
            rw [if_neg hx]
            refine ⟨size_le (by decide), size_le (by decide), size_le (by decide), size_le (by omega), size_le (by decide), size_le (by rw [cut1]; simp; omega), size_le (by decide), 0, 6, mo, rfl, rfl, hmo, by decide, by decide, fun r5 mo r6 r7 hmo => ?_⟩
            simp only [List.set_cons_zero]
            obtain ⟨o2, eo2, lo2, oo2⟩ := pickL r6 r7 oc (by omega) (by omega) oo
            simp only [eo2]
            exact go2 mo o2 hmo lo2 oo2
        by_cases hx : (0 : Int) < x
        · refine (show (if (0 : Int) < x then _ else _) from ?_)
          rw [if_pos hx]
          exact ⟨data, ct, key, rfl, by omega, od, ct14, hkey, go _ (by simp [gF]) (og key hkey)⟩
        · refine (show (if (0 : Int) < x then _ else _) from ?_)
          rw [if_neg hx]
          have kx : key ^^^ 1 ≤ 65535 := by
            have := Nat.xor_lt_two_pow (n := 16) (x := key) (y := 1) (by omega) (by decide)
            omega
          rw [show Builtin.bitXor (key : Int) 1 = ((key ^^^ 1 : Nat) : Int) from xor_int key 1]
          exact ⟨data, ct, key ^^^ 1, rfl, by omega, od, ct14, kx, go _ (by simp [gF]) (og _ kx)⟩
      rw [decide_eq_false c8] at t8
      refine if0 t8 ?_
      by_cases e8 : kind = 8
      · rw [decide_eq_true e8] at te
        refine if1 te ?_
        walk_at "ev"
        refine ⟨L.length + 1, L.length + 1 + 1, r, false, .non, [], now, rfl, hR, fun h => (by cases h), by omega, .inr ⟨hn0, l2, hn2, ?_⟩⟩
        refine ⟨L.length + 1 + 3, L.length + 1 + 2, r, now, rfl, ?_, l2, hn2, ?_⟩
        · exact (S_wr cl L mo r r (calledR false r [] now) G).symm ▸ S_oa cl L mo (calledR false r [] now) r G
        refine ⟨size_le (show 2 ≤ 1000000 by decide), ?_⟩
        have eS : wo (PR.wr (S cl L mo r r G) (L.length + 1) (L.length + 1 + 1) (cl 0) (calledR false r [] now)) (L.length + 1 + 3) (L.length + 1 + 2) (PR.onR r now).2 = S cl L mo (PR.onR r now).2 (PR.onR r now).2 G := by
          rw [S_wr, S_wo]
          rfl
        exact eS.symm ▸ fin mo (PR.onR r now).2 G (.tup [.str "told", calledD false r [] now]) _ _ _ _ _ _ _ _ hmo (on_good gd l1 hn1) told_fit
      · rw [decide_eq_false e8] at te
        refine if0 te ?_
        refine seq_go fun N hN => asg (v_subI (v_own (i := 7) rfl (S_oa cl L mo r r G).hn l_now) v_c) (hN _ _ ?_)
        clear hN N
        walk_at "ev"
        refine ⟨size_le (by decide), 0, 2, mo, rfl, rfl, hmo, by decide, by decide, fun r5 mo r6 r7 hmo => ?_⟩
        simp only [List.set_cons_zero]
        obtain ⟨t, et⟩ : ∃ t, atI [D.str "take", D.str "go"] r5 = some (.str (callW t)) := by
          have : r5 = 0 ∨ r5 = 1 := by omega
          rcases this with h | h <;> subst h
          · exact ⟨true, rfl⟩
          · exact ⟨false, rfl⟩
        simp only [et]
        refine ⟨L.length + 1, L.length + 1 + 1, r, t, .lst [], [], r.now - 1, rfl, S_ra cl L mo r r G, fun _ => ⟨PR.OX.lst [], by decide, fun o h => by cases h⟩, by omega, .inl ⟨by omega, size_le (show 2 ≤ 1000000 by decide), ?_⟩⟩
        exact fin mo r G (.tup [.str "wrong", .int (r.now - 1)]) _ _ _ _ _ _ _ _ hmo gd (fit_tup (by simp) (fits_cons (fit_str _ _) (fits_cons (fit_int _ _) fits_nil)))
    · rintro ds0 M0 ⟨mo, r, G, y8, y9, z0, z1, z2, z3, z4, z5, z6, z7, z8, z9, w0, rfl, rfl, hmo, gd⟩
      exact ⟨trivial, hK _ _ ⟨mo, _, _, _, _, _, _, _, _, _, _, _, _, _, _, _, _, _, _, _, _, rfl, rfl, hmo⟩⟩
  · rintro ds M' ⟨mo, L, y2, y3, y4, y5, y6, y7, y8, y9, z0, z1, z2, z3, z4, z5, z6, z7, z8, z9, w0, rfl, rfl, hmo⟩
    refine ⟨trivial, ?_⟩
    refine hN _ _ ?_; clear hN N
    walk_at "ev"
    exact .all (q _)
end K81

namespace K81
open PySem PySem.Spec PyProof.Rows L2 AX PF PQ PS
open PB hiding u__law_same use__law_same len__law_same none__law_same same_items same_tail b_same
def topS (i : Nat) : Stmt := PySem.Challenge.pw_axlewire_k81_whole_readers_of_guarded_me.main.body.getD i (.Pass ⟨0, 0, 0, 0⟩)
def methS (i j : Nat) : Stmt := match topS i with
  | .ClassDef _ _ _ body _ _ _ _ _ _ _ => body.getD j (.Pass ⟨0, 0, 0, 0⟩)
  | s => s
structure Bl (P : Program) (K : PySem.W.Frag) (mg : Str → Option Value) (cl : CL) : Prop where
  k_Reader : ClsK K (cl 0) ns_Reader
  e_DeedWrong : Err P K mg "DeedWrong"
  e_Wrong : Err P K mg "Wrong"
  h_DeedWrong : Hnd K mg "DeedWrong" [("DeedWrong", true), ("Wrong", false)]
  all : mg "all" = none
  bool : mg "bool" = none
  dict : mg "dict" = none
  int : mg "int" = none
  isinstance : mg "isinstance" = none
  len : mg "len" = none
  list : mg "list" = none
  range : mg "range" = none
  str : mg "str" = none
  tuple : mg "tuple" = none
  c_LAST : ∃ t, mg "LAST" = some (.int 14 t)
  c_MAKER : ∃ t, mg "MAKER" = some (.int 29 t)
section
variable {P : Program} {w : World} {K : PySem.W.Frag} {mg : Str → Option Value} {base : Heap}
abbrev s_is_number : Stmt := topS 5
theorem sc_is_number : FnScope ["thing", "low", "high"] ["thing", "low", "high"] (defScope s_is_number) := ⟨rfl, rfl, rfl, by decide +kernel, rfl, by decide +kernel, by decide +kernel⟩
theorem der_is_number {k : Nat} {f : Addr} {cdv : Value} {A : Around} {outer : List Env} {s : Shared} {H : Hp} {E : XK} {g0 : G} {H0 : Hp} {cl : CL} (T : Bl P K mg cl) (hr : Room k (A.deeper (envOfC "is_number" (defScope s_is_number) s.heap.objs.size f cdv))) :
    XSs ⟨(cxOf CX0 P w K mg base ["thing", "low", "high"] "is_number" (defScope s_is_number) f cdv A outer s H E).nox, g0, H0⟩ (defBody s_is_number) (u_is_number) :=
  have hu := hr.units
  (ss_one (s_ret (xand (xcb call_isi lcIsi T.isinstance boot_isinstance (acons (xv 0) (acons (xty rfl T.int boot_int) anil))) (xand (xnot (xcb call_isi lcIsi T.isinstance boot_isinstance (acons (xv 0) (acons (xty rfl T.bool boot_bool) anil)))) (xone (xchain op_le lrLe op_le lrLe (xv 1) (xv 0) (xv 2)))))))

abbrev s_is_octets : Stmt := topS 6
theorem sc_is_octets : FnScope ["thing", "most", "octet"] ["thing", "most"] (defScope s_is_octets) := ⟨rfl, rfl, rfl, by decide +kernel, rfl, by decide +kernel, by decide +kernel⟩
theorem der_is_octets {k : Nat} {f : Addr} {cdv : Value} {A : Around} {outer : List Env} {s : Shared} {H : Hp} {E : XK} {g0 : G} {H0 : Hp} {cl : CL} (T : Bl P K mg cl) (hr : Room k (A.deeper (envOfC "is_octets" (defScope s_is_octets) s.heap.objs.size f cdv))) {sp_is_number : DSp} {k_is_number : Nat} (G_is_number : Known P w K mg base k_is_number "is_number" ["thing", "low", "high"] sp_is_number) (l_is_number : k_is_number ≤ k) :
    XSs ⟨(cxOf CX0 P w K mg base ["thing", "most", "octet"] "is_octets" (defScope s_is_octets) f cdv A outer s H E).nox, g0, H0⟩ (defBody s_is_octets) (u_is_octets sp_is_number) :=
  have hu := hr.units
  (ss_one (s_ret (xand (xcb call_isi lcIsi T.isinstance boot_isinstance (acons (xv 0) (acons (xty rfl T.list boot_list) anil))) (xand (xcmp op_le lrLe (xcb cLen lcLen T.len boot_len (acons (xv 0) anil)) (xv 1)) (xone (xcb (cr_all rfl) lcAll T.all boot_all (acons (xlc (own := [("octet", 2)]) rfl sc_is_octets.nd (i_list (xv 0)) (blkOk_by (N := ["thing", "most", "octet"]) (sc := defScope s_is_octets) (by decide +kernel)) (lt_name 2 sc_is_octets.nd) (fun _ _ _ _ _ => ts_nil) (fun _ _ _ _ _ => (xcall G_is_number (hr.mono l_is_number) (acons (xv 2) (acons xint (acons xint anil)))))) anil)))))))

abbrev s_check_of : Stmt := topS 10
theorem sc_check_of : FnScope ["octets", "found", "octet", "_"] ["octets"] (defScope s_check_of) := ⟨rfl, rfl, rfl, by decide +kernel, rfl, by decide +kernel, by decide +kernel⟩
theorem der_check_of {k : Nat} {f : Addr} {cdv : Value} {A : Around} {outer : List Env} {s : Shared} {H : Hp} {E : XK} {g0 : G} {H0 : Hp} {cl : CL} (T : Bl P K mg cl) (hr : Room k (A.deeper (envOfC "check_of" (defScope s_check_of) s.heap.objs.size f cdv))) :
    XSs ⟨(cxOf CX0 P w K mg base ["octets", "found", "octet", "_"] "check_of" (defScope s_check_of) f cdv A outer s H E).nox, g0, H0⟩ (defBody s_check_of) (u_check_of) :=
  have hu := hr.units
  (ss_cons (s_set 1 sc_check_of.nd xint)
  (ss_cons (s_for PassesOwn.never rfl (i_list (xv 0)) (g_name 2 sc_check_of.nd)
  (ss_cons (s_aug 1 sc_check_of.nd iop_xor lrBxor (xv 2))
  (ss_one (s_for PassesOwn.never rfl (i_rng1 rfl T.range (acons xint anil)) (g_name 3 sc_check_of.nd)
  (ss_one (s_set 1 sc_check_of.nd (xif (ttru (xop op_and lrBand (xv 1) xint)) (xop op_and lrBand (xop op_xor lrBxor (xop op_shl lrShl (xv 1) xint) (xgi rfl T.c_MAKER)) xint) (xop op_shl lrShl (xv 1) xint))))))))
  (ss_one (s_ret (xop op_xor lrBxor (xv 1) xint)))))

abbrev s_guarded : Stmt := topS 11
theorem sc_guarded : FnScope ["data", "counter", "key"] ["data", "counter", "key"] (defScope s_guarded) := ⟨rfl, rfl, rfl, by decide +kernel, rfl, by decide +kernel, by decide +kernel⟩
theorem der_guarded {k : Nat} {f : Addr} {cdv : Value} {A : Around} {outer : List Env} {s : Shared} {H : Hp} {E : XK} {g0 : G} {H0 : Hp} {cl : CL} {wd : DWX} (T : Bl P K mg cl) (hr : Room k (A.deeper (envOfC "guarded" (defScope s_guarded) s.heap.objs.size f cdv))) (l3 : 3 ≤ k)
    (hF : Flies ⟨cxOf (L2.CX P w) P w K mg base ["data", "counter", "key"] "guarded" (defScope s_guarded) f cdv A outer s H E, g0, H0⟩ wd) (po : PassesOwn (model P w) (A.deeper (envOfC "guarded" (defScope s_guarded) s.heap.objs.size f cdv)) (cxOf (L2.CX P w) P w K mg base ["data", "counter", "key"] "guarded" (defScope s_guarded) f cdv A outer s H E).env (cxOf (L2.CX P w) P w K mg base ["data", "counter", "key"] "guarded" (defScope s_guarded) f cdv A outer s H E).xe) {sp_is_octets : DSp} {k_is_octets : Nat} (G_is_octets : Known P w K mg base k_is_octets "is_octets" ["thing", "most"] sp_is_octets) (l_is_octets : k_is_octets ≤ k) {sp_is_number : DSp} {k_is_number : Nat} (G_is_number : Known P w K mg base k_is_number "is_number" ["thing", "low", "high"] sp_is_number) (l_is_number : k_is_number ≤ k) {sp_check_of : DSp} {k_check_of : Nat} (G_check_of : Known P w K mg base k_check_of "check_of" ["octets"] sp_check_of) (l_check_of : k_check_of ≤ k) :
    XSs ⟨cxOf (L2.CX P w) P w K mg base ["data", "counter", "key"] "guarded" (defScope s_guarded) f cdv A outer s H E, g0, H0⟩ (defBody s_guarded) (u_guarded sp_is_octets sp_is_number sp_check_of wd) :=
  have hu := hr.units
  (ss_cons (s_if (tnot (tval (xcall G_is_octets (hr.mono l_is_octets) (acons (xv 0) (acons xint anil)))))
  (ss_one (s_raise (k := 0) rfl T.e_Wrong (hr.mono l3) hF xstr)) ss_nil)
  (ss_cons (s_if (tnot (tval (xcall G_is_number (hr.mono l_is_number) (acons (xv 1) (acons xint (acons (xgi rfl T.c_LAST) anil))))))
  (ss_one (s_raise (k := 0) rfl T.e_Wrong (hr.mono l3) hF xstr)) ss_nil)
  (ss_cons (s_if (tnot (tval (xcall G_is_number (hr.mono l_is_number) (acons (xv 2) (acons xint (acons xint anil))))))
  (ss_one (s_raise (k := 0) rfl T.e_Wrong (hr.mono l3) hF xstr)) ss_nil)
  (ss_one (s_ret (xop oAdd lrAdd (xlst (acons (xcall G_check_of (hr.mono l_check_of) (acons (xop oAdd lrAdd (xop oAdd lrAdd (xlst (acons (xv 1) anil)) (xv 0)) (xlst (acons (xop op_shr lrShr (xv 2) xint) (acons (xop op_and lrBand (xv 2) xint) anil)))) anil)) (acons (xv 1) anil))) (xv 0)))))))

abbrev s_Reader___init__ : Stmt := methS 12 0
theorem sc_Reader___init__ : FnScope ["self", "key", "most", "limit"] ["self", "key", "most", "limit"] (defScope s_Reader___init__) := ⟨rfl, rfl, rfl, by decide +kernel, rfl, by decide +kernel, by decide +kernel⟩
theorem der_Reader___init__ {k : Nat} {f : Addr} {cdv : Value} {A : Around} {outer : List Env} {s : Shared} {H : Hp} {E : XK} {g0 : G} {H0 : Hp} {cl : CL} (T : Bl P K mg cl) (hr : Room k (A.deeper (envOfC "Reader.__init__" (defScope s_Reader___init__) s.heap.objs.size f cdv))) :
    XSs ⟨(cxOf CX0 P w K mg base ["self", "key", "most", "limit"] "Reader.__init__" (defScope s_Reader___init__) f cdv A outer s H E).nox, g0, H0⟩ (defBody s_Reader___init__) (u_Reader___init__ cl) :=
  have hu := hr.units
  (ss_cons (s_asg (xv 1) (g_fld 0 T.k_Reader (xv 0)))
  (ss_cons (s_asg (xv 2) (g_fld 1 T.k_Reader (xv 0)))
  (ss_cons (s_asg (xv 3) (g_fld 2 T.k_Reader (xv 0)))
  (ss_cons (s_asg xint (g_fld 3 T.k_Reader (xv 0)))
  (ss_cons (s_asg xnon (g_fld 4 T.k_Reader (xv 0)))
  (ss_cons (s_asg xnon (g_fld 5 T.k_Reader (xv 0)))
  (ss_cons (s_asg (xv 3) (g_fld 6 T.k_Reader (xv 0)))
  (ss_one (s_asg (xdisp (xps_cons xstr xint (xps_cons xstr xint (xps_cons xstr xint (xps_cons xstr xint (xps_cons xstr xint (xps_cons xstr xint xps_nil))))))) (g_fld 7 T.k_Reader (xv 0)))))))))))

abbrev s_Reader_due : Stmt := methS 12 1
theorem sc_Reader_due : FnScope ["self"] ["self"] (defScope s_Reader_due) := ⟨rfl, rfl, rfl, by decide +kernel, rfl, by decide +kernel, by decide +kernel⟩
theorem der_Reader_due {k : Nat} {f : Addr} {cdv : Value} {A : Around} {outer : List Env} {s : Shared} {H : Hp} {E : XK} {g0 : G} {H0 : Hp} {cl : CL} (T : Bl P K mg cl) (hr : Room k (A.deeper (envOfC "Reader.due" (defScope s_Reader_due) s.heap.objs.size f cdv))) :
    XSs ⟨(cxOf CX0 P w K mg base ["self"] "Reader.due" (defScope s_Reader_due) f cdv A outer s H E).nox, g0, H0⟩ (defBody s_Reader_due) (u_Reader_due cl) :=
  have hu := hr.units
  (ss_one (s_ret (xfld 6 T.k_Reader (xv 0))))

abbrev s_Reader_go_on : Stmt := methS 12 2
theorem sc_Reader_go_on : FnScope ["self", "now", "found"] ["self", "now"] (defScope s_Reader_go_on) := ⟨rfl, rfl, rfl, by decide +kernel, rfl, by decide +kernel, by decide +kernel⟩
theorem der_Reader_go_on {k : Nat} {f : Addr} {cdv : Value} {A : Around} {outer : List Env} {s : Shared} {H : Hp} {E : XK} {g0 : G} {H0 : Hp} {cl : CL} {wd : DWX} (T : Bl P K mg cl) (hr : Room k (A.deeper (envOfC "Reader.go_on" (defScope s_Reader_go_on) s.heap.objs.size f cdv))) (l3 : 3 ≤ k)
    (hF : Flies ⟨cxOf (L2.CX P w) P w K mg base ["self", "now", "found"] "Reader.go_on" (defScope s_Reader_go_on) f cdv A outer s H E, g0, H0⟩ wd) (po : PassesOwn (model P w) (A.deeper (envOfC "Reader.go_on" (defScope s_Reader_go_on) s.heap.objs.size f cdv)) (cxOf (L2.CX P w) P w K mg base ["self", "now", "found"] "Reader.go_on" (defScope s_Reader_go_on) f cdv A outer s H E).env (cxOf (L2.CX P w) P w K mg base ["self", "now", "found"] "Reader.go_on" (defScope s_Reader_go_on) f cdv A outer s H E).xe) :
    XSs ⟨cxOf (L2.CX P w) P w K mg base ["self", "now", "found"] "Reader.go_on" (defScope s_Reader_go_on) f cdv A outer s H E, g0, H0⟩ (defBody s_Reader_go_on) (u_Reader_go_on cl wd) :=
  have hu := hr.units
  (ss_cons (s_if (tcmp op_lt lrLt (xv 1) (xfld 3 T.k_Reader (xv 0)))
  (ss_one (s_raise (k := 0) rfl T.e_DeedWrong (hr.mono l3) hF (xv 1))) ss_nil)
  (ss_cons (s_asg (xv 1) (g_fld 3 T.k_Reader (xv 0)))
  (ss_cons (s_set 2 sc_Reader_go_on.nd (xnew anil))
  (ss_cons (s_while po (tcmp op_le lrLe (xfld 6 T.k_Reader (xv 0)) (xv 1))
  (ss_cons (s_expr (xapp (xv 2) (acons (xfld 6 T.k_Reader (xv 0)) anil)))
  (ss_cons (s_fldaug 6 T.k_Reader (xv 0) (xfld 2 T.k_Reader (xv 0)) iAdd lrIAdd)
  (ss_one (s_subaug hu (xfld 7 T.k_Reader (xv 0)) xstr xint iAdd lrIAdd)))))
  (ss_one (s_ret (xfrz (xv 2))))))))

abbrev s_Reader_is_right : Stmt := methS 12 3
theorem sc_Reader_is_right : FnScope ["self", "octets"] ["self", "octets"] (defScope s_Reader_is_right) := ⟨rfl, rfl, rfl, by decide +kernel, rfl, by decide +kernel, by decide +kernel⟩
theorem der_Reader_is_right {k : Nat} {f : Addr} {cdv : Value} {A : Around} {outer : List Env} {s : Shared} {H : Hp} {E : XK} {g0 : G} {H0 : Hp} {cl : CL} (T : Bl P K mg cl) (hr : Room k (A.deeper (envOfC "Reader.is_right" (defScope s_Reader_is_right) s.heap.objs.size f cdv))) {sp_is_octets : DSp} {k_is_octets : Nat} (G_is_octets : Known P w K mg base k_is_octets "is_octets" ["thing", "most"] sp_is_octets) (l_is_octets : k_is_octets ≤ k) {sp_guarded : DSpX} {k_guarded : Nat} (G_guarded : KnownX P w K mg base k_guarded "guarded" ["data", "counter", "key"] sp_guarded) (l_guarded : k_guarded ≤ k) :
    XSs ⟨(cxOf CX0 P w K mg base ["self", "octets"] "Reader.is_right" (defScope s_Reader_is_right) f cdv A outer s H E).nox, g0, H0⟩ (defBody s_Reader_is_right) (u_Reader_is_right cl sp_is_octets sp_guarded) :=
  have hu := hr.units
  (ss_cons (s_if (tw (wor (tnot (tval (xcall G_is_octets (hr.mono l_is_octets) (acons (xv 1) (acons xint anil))))) (wor (tcmp op_lt lrLt (xcb cLen lcLen T.len boot_len (acons (xv 1) anil)) xint) (wor1 (tcmp op_gt lrGt (xix hu (xv 1) xint) (xgi rfl T.c_LAST))))))
  (ss_one (s_ret xbl)) ss_nil)
  (ss_one (s_ret (xcmp (oEq hu) lrEq (xcallX G_guarded (hr.mono l_guarded) flies0 (acons (xsl (xv 1) (xo_some xint) xo_none) (acons (xix hu (xv 1) xint) (acons (xfld 0 T.k_Reader (xv 0)) anil)))) (xv 1)))))

abbrev s_Reader_take : Stmt := methS 12 4
theorem sc_Reader_take : FnScope ["self", "octets", "now", "ahead"] ["self", "octets", "now"] (defScope s_Reader_take) := ⟨rfl, rfl, rfl, by decide +kernel, rfl, by decide +kernel, by decide +kernel⟩
theorem der_Reader_take {k : Nat} {f : Addr} {cdv : Value} {A : Around} {outer : List Env} {s : Shared} {H : Hp} {E : XK} {g0 : G} {H0 : Hp} {cl : CL} {wd : DWX} (T : Bl P K mg cl) (hr : Room k (A.deeper (envOfC "Reader.take" (defScope s_Reader_take) s.heap.objs.size f cdv)))
    (hF : Flies ⟨cxOf (L2.CX P w) P w K mg base ["self", "octets", "now", "ahead"] "Reader.take" (defScope s_Reader_take) f cdv A outer s H E, g0, H0⟩ wd) (po : PassesOwn (model P w) (A.deeper (envOfC "Reader.take" (defScope s_Reader_take) s.heap.objs.size f cdv)) (cxOf (L2.CX P w) P w K mg base ["self", "octets", "now", "ahead"] "Reader.take" (defScope s_Reader_take) f cdv A outer s H E).env (cxOf (L2.CX P w) P w K mg base ["self", "octets", "now", "ahead"] "Reader.take" (defScope s_Reader_take) f cdv A outer s H E).xe) {sp_Reader_go_on : DSpX} {k_Reader_go_on : Nat} (G_Reader_go_on : KnownMX P w K mg base k_Reader_go_on (cl 0) "go_on" ["self", "now"] sp_Reader_go_on) (l_Reader_go_on : k_Reader_go_on ≤ k) {sp_Reader_is_right : DSp} {k_Reader_is_right : Nat} (G_Reader_is_right : KnownM P w K mg base k_Reader_is_right (cl 0) "is_right" ["self", "octets"] sp_Reader_is_right) (l_Reader_is_right : k_Reader_is_right ≤ k) {sp_Reader_counted : DSp} {k_Reader_counted : Nat} (G_Reader_counted : KnownM P w K mg base k_Reader_counted (cl 0) "counted" ["self", "word", "told"] sp_Reader_counted) (l_Reader_counted : k_Reader_counted ≤ k) {sp_Reader_good : DSp} {k_Reader_good : Nat} (G_Reader_good : KnownM P w K mg base k_Reader_good (cl 0) "good" ["self", "octets", "word", "told"] sp_Reader_good) (l_Reader_good : k_Reader_good ≤ k) :
    XSs ⟨cxOf (L2.CX P w) P w K mg base ["self", "octets", "now", "ahead"] "Reader.take" (defScope s_Reader_take) f cdv A outer s H E, g0, H0⟩ (defBody s_Reader_take) (u_Reader_take cl sp_Reader_go_on sp_Reader_is_right sp_Reader_counted sp_Reader_good wd) :=
  have hu := hr.units
  (ss_cons (s_expr (xmethX T.k_Reader G_Reader_go_on (hr.mono l_Reader_go_on) hF (xv 0) (acons (xv 2) anil)))
  (ss_cons (s_if (tnot (tval (xmeth T.k_Reader G_Reader_is_right (hr.mono l_Reader_is_right) (xv 0) (acons (xv 1) anil))))
  (ss_one (s_ret (xmeth T.k_Reader G_Reader_counted (hr.mono l_Reader_counted) (xv 0) (acons xstr (acons xstr anil))))) ss_nil)
  (ss_cons (s_if (tcmp op_isN lrIs (xfld 4 T.k_Reader (xv 0)) xnon)
  (ss_one (s_ret (xmeth T.k_Reader G_Reader_good (hr.mono l_Reader_good) (xv 0) (acons (xv 1) (acons xstr (acons xstr anil)))))) ss_nil)
  (ss_cons (s_set 3 sc_Reader_take.nd (xop op_mod lrMod (xop op_sub lrSub (xix hu (xv 1) xint) (xfld 4 T.k_Reader (xv 0))) (xop oAdd lrAdd (xgi rfl T.c_LAST) xint)))
  (ss_cons (s_if (tcmp (oEq hu) lrEq (xv 3) xint)
  (ss_one (s_ret (xmeth T.k_Reader G_Reader_counted (hr.mono l_Reader_counted) (xv 0) (acons xstr (acons xstr anil))))) ss_nil)
  (ss_cons (s_if (tcmp (oEq hu) lrEq (xv 3) xint)
  (ss_one (s_ret (xmeth T.k_Reader G_Reader_good (hr.mono l_Reader_good) (xv 0) (acons (xv 1) (acons xstr (acons xstr anil)))))) ss_nil)
  (ss_cons (s_if (tcmp op_le lrLe (xop op_sub lrSub (xv 3) xint) (xfld 1 T.k_Reader (xv 0)))
  (ss_one (s_ret (xmeth T.k_Reader G_Reader_good (hr.mono l_Reader_good) (xv 0) (acons (xv 1) (acons xstr (acons (xtup (acons xstr (acons (xop op_sub lrSub (xv 3) xint) anil))) anil)))))) ss_nil)
  (ss_cons (s_asg (xix hu (xv 1) xint) (g_fld 4 T.k_Reader (xv 0)))
  (ss_one (s_ret (xmeth T.k_Reader G_Reader_counted (hr.mono l_Reader_counted) (xv 0) (acons xstr (acons (xtup (acons xstr (acons (xop op_sub lrSub (xv 3) xint) anil))) anil)))))))))))))

abbrev s_Reader_good : Stmt := methS 12 5
theorem sc_Reader_good : FnScope ["self", "octets", "word", "told"] ["self", "octets", "word", "told"] (defScope s_Reader_good) := ⟨rfl, rfl, rfl, by decide +kernel, rfl, by decide +kernel, by decide +kernel⟩
theorem der_Reader_good {k : Nat} {f : Addr} {cdv : Value} {A : Around} {outer : List Env} {s : Shared} {H : Hp} {E : XK} {g0 : G} {H0 : Hp} {cl : CL} (T : Bl P K mg cl) (hr : Room k (A.deeper (envOfC "Reader.good" (defScope s_Reader_good) s.heap.objs.size f cdv))) {sp_Reader_counted : DSp} {k_Reader_counted : Nat} (G_Reader_counted : KnownM P w K mg base k_Reader_counted (cl 0) "counted" ["self", "word", "told"] sp_Reader_counted) (l_Reader_counted : k_Reader_counted ≤ k) :
    XSs ⟨(cxOf CX0 P w K mg base ["self", "octets", "word", "told"] "Reader.good" (defScope s_Reader_good) f cdv A outer s H E).nox, g0, H0⟩ (defBody s_Reader_good) (u_Reader_good cl sp_Reader_counted) :=
  have hu := hr.units
  (ss_cons (s_asg (xix hu (xv 1) xint) (g_fld 4 T.k_Reader (xv 0)))
  (ss_cons (s_asg (xsl (xv 1) (xo_some xint) xo_none) (g_fld 5 T.k_Reader (xv 0)))
  (ss_cons (s_asg (xop oAdd lrAdd (xfld 3 T.k_Reader (xv 0)) (xfld 2 T.k_Reader (xv 0))) (g_fld 6 T.k_Reader (xv 0)))
  (ss_one (s_ret (xmeth T.k_Reader G_Reader_counted (hr.mono l_Reader_counted) (xv 0) (acons (xv 2) (acons (xv 3) anil))))))))

abbrev s_Reader_counted : Stmt := methS 12 6
theorem sc_Reader_counted : FnScope ["self", "word", "told"] ["self", "word", "told"] (defScope s_Reader_counted) := ⟨rfl, rfl, rfl, by decide +kernel, rfl, by decide +kernel, by decide +kernel⟩
theorem der_Reader_counted {k : Nat} {f : Addr} {cdv : Value} {A : Around} {outer : List Env} {s : Shared} {H : Hp} {E : XK} {g0 : G} {H0 : Hp} {cl : CL} (T : Bl P K mg cl) (hr : Room k (A.deeper (envOfC "Reader.counted" (defScope s_Reader_counted) s.heap.objs.size f cdv))) :
    XSs ⟨(cxOf CX0 P w K mg base ["self", "word", "told"] "Reader.counted" (defScope s_Reader_counted) f cdv A outer s H E).nox, g0, H0⟩ (defBody s_Reader_counted) (u_Reader_counted cl) :=
  have hu := hr.units
  (ss_cons (s_subaug hu (xfld 7 T.k_Reader (xv 0)) (xv 1) xint iAdd lrIAdd)
  (ss_one (s_ret (xv 2))))

abbrev s_Reader_data : Stmt := methS 12 7
theorem sc_Reader_data : FnScope ["self"] ["self"] (defScope s_Reader_data) := ⟨rfl, rfl, rfl, by decide +kernel, rfl, by decide +kernel, by decide +kernel⟩
theorem der_Reader_data {k : Nat} {f : Addr} {cdv : Value} {A : Around} {outer : List Env} {s : Shared} {H : Hp} {E : XK} {g0 : G} {H0 : Hp} {cl : CL} (T : Bl P K mg cl) (hr : Room k (A.deeper (envOfC "Reader.data" (defScope s_Reader_data) s.heap.objs.size f cdv))) :
    XSs ⟨(cxOf CX0 P w K mg base ["self"] "Reader.data" (defScope s_Reader_data) f cdv A outer s H E).nox, g0, H0⟩ (defBody s_Reader_data) (u_Reader_data cl) :=
  have hu := hr.units
  (ss_one (s_ret (xif (tcmp op_isN lrIs (xfld 5 T.k_Reader (xv 0)) xnon) xnon (xct call_list_of lcListN T.list boot_list (acons (xfld 5 T.k_Reader (xv 0)) anil)))))

abbrev s_Reader_tally : Stmt := methS 12 8
theorem sc_Reader_tally : FnScope ["self"] ["self"] (defScope s_Reader_tally) := ⟨rfl, rfl, rfl, by decide +kernel, rfl, by decide +kernel, by decide +kernel⟩
theorem der_Reader_tally {k : Nat} {f : Addr} {cdv : Value} {A : Around} {outer : List Env} {s : Shared} {H : Hp} {E : XK} {g0 : G} {H0 : Hp} {cl : CL} (T : Bl P K mg cl) (hr : Room k (A.deeper (envOfC "Reader.tally" (defScope s_Reader_tally) s.heap.objs.size f cdv))) :
    XSs ⟨(cxOf CX0 P w K mg base ["self"] "Reader.tally" (defScope s_Reader_tally) f cdv A outer s H E).nox, g0, H0⟩ (defBody s_Reader_tally) (u_Reader_tally cl) :=
  have hu := hr.units
  (ss_one (s_ret (xct call_dictD lcDict T.dict boot_dict (acons (xfld 7 T.k_Reader (xv 0)) anil))))

abbrev s__law_draws : Stmt := topS 14
theorem sc__law_draws : FnScope ["script"] ["script"] (defScope s__law_draws) := ⟨rfl, rfl, rfl, by decide +kernel, rfl, by decide +kernel, by decide +kernel⟩
theorem der__law_draws {k : Nat} {f : Addr} {cdv : Value} {A : Around} {outer : List Env} {s : Shared} {H : Hp} {E : XK} {g0 : G} {H0 : Hp} {cl : CL} (T : Bl P K mg cl) (hr : Room k (A.deeper (envOfC "_law_draws" (defScope s__law_draws) s.heap.objs.size f cdv))) :
    XSs ⟨(cxOf CX0 P w K mg base ["script"] "_law_draws" (defScope s__law_draws) f cdv A outer s H E).nox, g0, H0⟩ (defBody s__law_draws) (u__law_draws) :=
  have hu := hr.units
  (ss_one (s_ret (xnew (acons (xct call_list_of lcList T.list boot_list (acons (xv 0) anil)) (acons xint (acons xint (acons xint anil)))))))

abbrev s__law_draw : Stmt := topS 15
theorem sc__law_draw : FnScope ["draws", "limit", "cell", "value"] ["draws", "limit"] (defScope s__law_draw) := ⟨rfl, rfl, rfl, by decide +kernel, rfl, by decide +kernel, by decide +kernel⟩
theorem der__law_draw {k : Nat} {f : Addr} {cdv : Value} {A : Around} {outer : List Env} {s : Shared} {H : Hp} {E : XK} {g0 : G} {H0 : Hp} {cl : CL} (T : Bl P K mg cl) (hr : Room k (A.deeper (envOfC "_law_draw" (defScope s__law_draw) s.heap.objs.size f cdv))) :
    XSs ⟨(cxOf CX0 P w K mg base ["draws", "limit", "cell", "value"] "_law_draw" (defScope s__law_draw) f cdv A outer s H E).nox, g0, H0⟩ (defBody s__law_draw) (u__law_draw) :=
  have hu := hr.units
  (ss_cons (s_if (tw (wand (tcmp (oEq hu) lrEq (xix hu (xv 0) xint) xint) (wand1 (tcmp op_lt lrLt (xix hu (xv 0) xint) (xcb cLen lcLen T.len boot_len (acons (xix hu (xv 0) xint) anil))))))
  (ss_cons (s_set 2 sc__law_draw.nd (xix hu (xix hu (xv 0) xint) (xix hu (xv 0) xint)))
  (ss_cons (s_setI hu (xv 0) xint (xop oAdd lrAdd (xix hu (xv 0) xint) xint))
  (ss_cons (s_if (tcmp op_ge lrGe (xv 2) (xop op_pow lrPow xint xint))
  (ss_one (s_setI hu (xv 0) xint (xv 2))) ss_nil)
  (ss_one (s_setI hu (xv 0) xint (xop op_mod lrMod (xct cInt lcInt T.int boot_int (acons (xop oAdd lrAdd (xop oAdd lrAdd (xop oMul lrTimes (xix hu (xv 0) xint) xint) (xv 2)) xint) anil)) xint)))))) ss_nil)
  (ss_cons (s_if (tcmp op_gt lrGt (xix hu (xv 0) xint) xint)
  (ss_cons (s_set 3 sc__law_draw.nd (xop op_mod lrMod (xct cInt lcInt T.int boot_int (acons (xix hu (xv 0) xint) anil)) (xv 1)))
  (ss_cons (s_setI hu (xv 0) xint (xop op_fdivW lrFdiv (xix hu (xv 0) xint) (xv 1)))
  (ss_one (s_ret (xv 3))))) ss_nil)
  (ss_cons (s_setI hu (xv 0) xint (xop op_mod lrMod (xct cInt lcInt T.int boot_int (acons (xop oAdd lrAdd (xop oMul lrTimes (xix hu (xv 0) xint) xint) xint) anil)) xint))
  (ss_one (s_ret (xop op_mod lrMod (xct cInt lcInt T.int boot_int (acons (xop op_fdivW lrFdiv (xix hu (xv 0) xint) xint) anil)) (xv 1)))))))

abbrev s__law_same : Stmt := topS 16
theorem sc__law_same : FnScope ["x", "due", "key", "right", "at"] ["x", "due"] (defScope s__law_same) := ⟨rfl, rfl, rfl, by decide +kernel, rfl, by decide +kernel, by decide +kernel⟩
theorem der__law_same {k : Nat} {f : Addr} {cdv : Value} {A : Around} {outer : List Env} {s : Shared} {H : Hp} {E : XK} {g0 : G} {H0 : Hp} {cl : CL} (T : Bl P K mg cl) (hr : Room k (A.deeper (envOfC "_law_same" (defScope s__law_same) s.heap.objs.size f cdv))) {sp__law_same : DSp} {k__law_same : Nat} (G__law_same : Known P w K mg base k__law_same "_law_same" ["x", "due"] sp__law_same) (l__law_same : k__law_same ≤ k) :
    XSs ⟨(cxOf CX0 P w K mg base ["x", "due", "key", "right", "at"] "_law_same" (defScope s__law_same) f cdv A outer s H E).nox, g0, H0⟩ (defBody s__law_same) (u__law_same sp__law_same) :=
  have hu := hr.units
  (ss_cons (s_if (tcmp op_isN lrIs (xv 1) xnon)
  (ss_one (s_ret (xcmp op_isN lrIs (xv 0) xnon))) ss_nil)
  (ss_cons (s_if (tval (xcb call_isi lcIsi T.isinstance boot_isinstance (acons (xv 1) (acons (xty rfl T.bool boot_bool) anil))))
  (ss_one (s_ret (xand (xcb call_isi lcIsi T.isinstance boot_isinstance (acons (xv 0) (acons (xty rfl T.bool boot_bool) anil))) (xone (xcmp (oEq hu) lrEq (xv 0) (xv 1)))))) ss_nil)
  (ss_cons (s_if (tval (xcb call_isi lcIsi T.isinstance boot_isinstance (acons (xv 1) (acons (xty rfl T.int boot_int) anil))))
  (ss_one (s_ret (xand (xcb call_isi lcIsi T.isinstance boot_isinstance (acons (xv 0) (acons (xty rfl T.int boot_int) anil))) (xand (xnot (xcb call_isi lcIsi T.isinstance boot_isinstance (acons (xv 0) (acons (xty rfl T.bool boot_bool) anil)))) (xone (xcmp (oEq hu) lrEq (xv 0) (xv 1))))))) ss_nil)
  (ss_cons (s_if (tval (xcb call_isi lcIsi T.isinstance boot_isinstance (acons (xv 1) (acons (xty rfl T.str boot_str) anil))))
  (ss_one (s_ret (xand (xcb call_isi lcIsi T.isinstance boot_isinstance (acons (xv 0) (acons (xty rfl T.str boot_str) anil))) (xone (xcmp (oEq hu) lrEq (xv 0) (xv 1)))))) ss_nil)
  (ss_cons (s_if (tval (xcb call_isi lcIsi T.isinstance boot_isinstance (acons (xv 1) (acons (xty rfl T.dict boot_dict) anil))))
  (ss_cons (s_if (tw (wor (tnot (tval (xcb call_isi lcIsi T.isinstance boot_isinstance (acons (xv 0) (acons (xty rfl T.dict boot_dict) anil))))) (wor (tcmp (oNe hu) lrNe (xcb cLen lcLen T.len boot_len (acons (xv 0) anil)) (xcb cLen lcLen T.len boot_len (acons (xv 1) anil))) (wor1 (tnot (tval (xcb (cr_all rfl) lcAll T.all boot_all (acons (xlock 1 (xlc (own := [("key", 2)]) rfl sc__law_same.nd (i_keys (xv 1)) (blkOk_by (N := ["x", "due", "key", "right", "at"]) (sc := defScope s__law_same) (by decide +kernel)) (lt_name 2 sc__law_same.nd) (fun _ _ _ _ _ => ts_nil) (fun _ _ _ _ _ => (xcmp (oIn hu) lrIn (xv 2) (xv 0))))) anil))))))))
  (ss_one (s_ret xbl)) ss_nil)
  (ss_one (s_ret (xcb (cr_all rfl) lcAll T.all boot_all (acons (xlock 1 (xlc (own := [("key", 2)]) rfl sc__law_same.nd (i_keys (xv 1)) (blkOk_by (N := ["x", "due", "key", "right", "at"]) (sc := defScope s__law_same) (by decide +kernel)) (lt_name 2 sc__law_same.nd) (fun _ _ _ _ _ => ts_nil) (fun _ _ _ _ _ => (xcall G__law_same (hr.mono l__law_same) (acons (xix hu (xv 0) (xv 2)) (acons (xix hu (xv 1) (xv 2)) anil)))))) anil))))) ss_nil)
  (ss_cons (s_if (tval (xcb call_isi lcIsi T.isinstance boot_isinstance (acons (xv 1) (acons (xty rfl T.list boot_list) anil))))
  (ss_one (s_set 3 sc__law_same.nd (xcb call_isi lcIsi T.isinstance boot_isinstance (acons (xv 0) (acons (xty rfl T.list boot_list) anil))))) (ss_one (s_set 3 sc__law_same.nd (xcb call_isi lcIsi T.isinstance boot_isinstance (acons (xv 0) (acons (xty rfl T.tuple boot_tuple) anil))))))
  (ss_one (s_ret (xand (xv 3) (xand (xcmp (oEq hu) lrEq (xcb cLen lcLen T.len boot_len (acons (xv 0) anil)) (xcb cLen lcLen T.len boot_len (acons (xv 1) anil))) (xone (xcb (cr_all rfl) lcAll T.all boot_all (acons (xlc (own := [("at", 4)]) rfl sc__law_same.nd (i_rng1 rfl T.range (acons (xcb cLen lcLen T.len boot_len (acons (xv 1) anil)) anil)) (blkOk_by (N := ["x", "due", "key", "right", "at"]) (sc := defScope s__law_same) (by decide +kernel)) (lt_name 4 sc__law_same.nd) (fun _ _ _ _ _ => ts_nil) (fun _ _ _ _ _ => (xcall G__law_same (hr.mono l__law_same) (acons (xix hu (xv 0) (xv 4)) (acons (xix hu (xv 1) (xv 4)) anil))))) anil)))))))))))))

abbrev s__law_check : Stmt := topS 17
theorem sc__law_check : FnScope ["octets", "table", "k", "rest", "bit", "found", "octet"] ["octets"] (defScope s__law_check) := ⟨rfl, rfl, rfl, by decide +kernel, rfl, by decide +kernel, by decide +kernel⟩
theorem der__law_check {k : Nat} {f : Addr} {cdv : Value} {A : Around} {outer : List Env} {s : Shared} {H : Hp} {E : XK} {g0 : G} {H0 : Hp} {cl : CL} (T : Bl P K mg cl) (hr : Room k (A.deeper (envOfC "_law_check" (defScope s__law_check) s.heap.objs.size f cdv))) :
    XSs ⟨(cxOf CX0 P w K mg base ["octets", "table", "k", "rest", "bit", "found", "octet"] "_law_check" (defScope s__law_check) f cdv A outer s H E).nox, g0, H0⟩ (defBody s__law_check) (u__law_check) :=
  have hu := hr.units
  (ss_cons (s_set 1 sc__law_check.nd (xnew anil))
  (ss_cons (s_for PassesOwn.never rfl (i_rng1 rfl T.range (acons xint anil)) (g_name 2 sc__law_check.nd)
  (ss_cons (s_set 3 sc__law_check.nd (xop oMul lrTimes (xv 2) xint))
  (ss_cons (s_for PassesOwn.never rfl (i_rng3 rfl T.range (acons xint (acons (xun un_neg luNeg xint) (acons (xun un_neg luNeg xint) anil)))) (g_name 4 sc__law_check.nd)
  (ss_one (s_if (tcmp (oEq hu) lrEq (xop op_mod lrMod (xct cInt lcInt T.int boot_int (acons (xop op_fdivW lrFdiv (xv 3) (xop op_shl lrShl xint (xv 4))) anil)) xint) xint)
  (ss_one (s_set 3 sc__law_check.nd (xop op_xor lrBxor (xv 3) (xop op_shl lrShl xint (xv 4))))) ss_nil)))
  (ss_one (s_expr (xapp (xv 1) (acons (xv 3) anil)))))))
  (ss_cons (s_set 5 sc__law_check.nd xint)
  (ss_cons (s_for PassesOwn.never rfl (i_list (xv 0)) (g_name 6 sc__law_check.nd)
  (ss_one (s_set 5 sc__law_check.nd (xix hu (xv 1) (xop op_xor lrBxor (xv 5) (xv 6))))))
  (ss_one (s_ret (xop op_sub lrSub xint (xv 5))))))))

abbrev s__law_guarded : Stmt := topS 18
theorem sc__law_guarded : FnScope ["data", "counter", "key"] ["data", "counter", "key"] (defScope s__law_guarded) := ⟨rfl, rfl, rfl, by decide +kernel, rfl, by decide +kernel, by decide +kernel⟩
theorem der__law_guarded {k : Nat} {f : Addr} {cdv : Value} {A : Around} {outer : List Env} {s : Shared} {H : Hp} {E : XK} {g0 : G} {H0 : Hp} {cl : CL} (T : Bl P K mg cl) (hr : Room k (A.deeper (envOfC "_law_guarded" (defScope s__law_guarded) s.heap.objs.size f cdv))) {sp__law_check : DSp} {k__law_check : Nat} (G__law_check : Known P w K mg base k__law_check "_law_check" ["octets"] sp__law_check) (l__law_check : k__law_check ≤ k) :
    XSs ⟨(cxOf CX0 P w K mg base ["data", "counter", "key"] "_law_guarded" (defScope s__law_guarded) f cdv A outer s H E).nox, g0, H0⟩ (defBody s__law_guarded) (u__law_guarded sp__law_check) :=
  have hu := hr.units
  (ss_one (s_ret (xop oAdd lrAdd (xlst (acons (xcall G__law_check (hr.mono l__law_check) (acons (xop oAdd lrAdd (xop oAdd lrAdd (xlst (acons (xv 1) anil)) (xv 0)) (xlst (acons (xop op_fdivW lrFdiv (xv 2) xint) (acons (xop op_mod lrMod (xct cInt lcInt T.int boot_int (acons (xv 2) anil)) xint) anil)))) anil)) (acons (xv 1) anil))) (xv 0))))

abbrev s__law_new_reader : Stmt := topS 19
theorem sc__law_new_reader : FnScope ["key", "most", "limit", "counts"] ["key", "most", "limit"] (defScope s__law_new_reader) := ⟨rfl, rfl, rfl, by decide +kernel, rfl, by decide +kernel, by decide +kernel⟩
theorem der__law_new_reader {k : Nat} {f : Addr} {cdv : Value} {A : Around} {outer : List Env} {s : Shared} {H : Hp} {E : XK} {g0 : G} {H0 : Hp} {cl : CL} (T : Bl P K mg cl) (hr : Room k (A.deeper (envOfC "_law_new_reader" (defScope s__law_new_reader) s.heap.objs.size f cdv))) :
    XSs ⟨(cxOf CX0 P w K mg base ["key", "most", "limit", "counts"] "_law_new_reader" (defScope s__law_new_reader) f cdv A outer s H E).nox, g0, H0⟩ (defBody s__law_new_reader) (u__law_new_reader cl) :=
  have hu := hr.units
  (ss_cons (s_set 3 sc__law_new_reader.nd (xdisp (xps_cons xstr xint (xps_cons xstr xint (xps_cons xstr xint (xps_cons xstr xint (xps_cons xstr xint (xps_cons xstr xint xps_nil))))))))
  (ss_one (s_ret (xdisp (xps_cons xstr (xv 0) (xps_cons xstr (xv 1) (xps_cons xstr (xv 2) (xps_cons xstr xint (xps_cons xstr xnon (xps_cons xstr xnon (xps_cons xstr (xv 2) (xps_cons xstr (xv 3) xps_nil))))))))))))

abbrev s__law_reader_on : Stmt := topS 20
theorem sc__law_reader_on : FnScope ["own", "now", "found"] ["own", "now"] (defScope s__law_reader_on) := ⟨rfl, rfl, rfl, by decide +kernel, rfl, by decide +kernel, by decide +kernel⟩
theorem der__law_reader_on {k : Nat} {f : Addr} {cdv : Value} {A : Around} {outer : List Env} {s : Shared} {H : Hp} {E : XK} {g0 : G} {H0 : Hp} {cl : CL} (T : Bl P K mg cl) (hr : Room k (A.deeper (envOfC "_law_reader_on" (defScope s__law_reader_on) s.heap.objs.size f cdv))) :
    XSs ⟨(cxOf CX0 P w K mg base ["own", "now", "found"] "_law_reader_on" (defScope s__law_reader_on) f cdv A outer s H E).nox, g0, H0⟩ (defBody s__law_reader_on) (u__law_reader_on cl) :=
  have hu := hr.units
  (ss_cons (s_setI hu (xv 0) xstr (xv 1))
  (ss_cons (s_set 2 sc__law_reader_on.nd (xnew anil))
  (ss_cons (s_while PassesOwn.never (tcmp op_le lrLe (xix hu (xv 0) xstr) (xv 1))
  (ss_cons (s_expr (xapp (xv 2) (acons (xix hu (xv 0) xstr) anil)))
  (ss_one (s_setI hu (xv 0) xstr (xop oAdd lrAdd (xix hu (xv 0) xstr) (xix hu (xv 0) xstr))))))
  (ss_cons (s_setI hu (xix hu (xv 0) xstr) xstr (xop oAdd lrAdd (xix hu (xix hu (xv 0) xstr) xstr) (xcb cLen lcLen T.len boot_len (acons (xv 2) anil))))
  (ss_one (s_ret (xfrz (xv 2))))))))

abbrev s__law_reader_takes : Stmt := topS 21
theorem sc__law_reader_takes : FnScope ["own", "octets", "now", "fits", "octet", "word", "told", "gone"] ["own", "octets", "now"] (defScope s__law_reader_takes) := ⟨rfl, rfl, rfl, by decide +kernel, rfl, by decide +kernel, by decide +kernel⟩
theorem der__law_reader_takes {k : Nat} {f : Addr} {cdv : Value} {A : Around} {outer : List Env} {s : Shared} {H : Hp} {E : XK} {g0 : G} {H0 : Hp} {cl : CL} (T : Bl P K mg cl) (hr : Room k (A.deeper (envOfC "_law_reader_takes" (defScope s__law_reader_takes) s.heap.objs.size f cdv))) {sp__law_reader_on : DSp} {k__law_reader_on : Nat} (G__law_reader_on : Known P w K mg base k__law_reader_on "_law_reader_on" ["own", "now"] sp__law_reader_on) (l__law_reader_on : k__law_reader_on ≤ k) {sp__law_guarded : DSp} {k__law_guarded : Nat} (G__law_guarded : Known P w K mg base k__law_guarded "_law_guarded" ["data", "counter", "key"] sp__law_guarded) (l__law_guarded : k__law_guarded ≤ k) :
    XSs ⟨(cxOf CX0 P w K mg base ["own", "octets", "now", "fits", "octet", "word", "told", "gone"] "_law_reader_takes" (defScope s__law_reader_takes) f cdv A outer s H E).nox, g0, H0⟩ (defBody s__law_reader_takes) (u__law_reader_takes cl sp__law_reader_on sp__law_guarded) :=
  have hu := hr.units
  (ss_cons (s_expr (xcall G__law_reader_on (hr.mono l__law_reader_on) (acons (xv 0) (acons (xv 2) anil))))
  (ss_cons (s_set 3 sc__law_reader_takes.nd (xand (xchain op_lt lrLt op_lt lrLt xint (xcb cLen lcLen T.len boot_len (acons (xv 1) anil)) xint) (xand (xcb (cr_all rfl) lcAll T.all boot_all (acons (xlc (own := [("octet", 4)]) rfl sc__law_reader_takes.nd (i_list (xv 1)) (blkOk_by (N := ["own", "octets", "now", "fits", "octet", "word", "told", "gone"]) (sc := defScope s__law_reader_takes) (by decide +kernel)) (lt_name 4 sc__law_reader_takes.nd) (fun _ _ _ _ _ => ts_nil) (fun _ _ _ _ _ => (xchain op_le lrLe op_lt lrLt xint (xv 4) xint))) anil)) (xone (xcmp op_lt lrLt (xix hu (xv 1) xint) xint)))))
  (ss_cons (s_asg (xtup (acons xstr (acons xstr anil))) (g_tup rfl (gs_cons (g_name 5 sc__law_reader_takes.nd) (gs_cons (g_name 6 sc__law_reader_takes.nd) gs_nil))))
  (ss_cons (s_if (tw (wand (tval (xv 3)) (wand1 (tcmp (oEq hu) lrEq (xcall G__law_guarded (hr.mono l__law_guarded) (acons (xsl (xv 1) (xo_some xint) xo_none) (acons (xix hu (xv 1) xint) (acons (xix hu (xv 0) xstr) anil)))) (xv 1)))))
  (ss_cons (s_set 7 sc__law_reader_takes.nd (xif (tcmp op_isN lrIs (xix hu (xv 0) xstr) xnon) xint (xop op_mod lrMod (xct cInt lcInt T.int boot_int (acons (xop op_sub lrSub (xop op_sub lrSub (xix hu (xv 1) xint) (xix hu (xv 0) xstr)) xint) anil)) xint)))
  (ss_one (s_if (tw (wand (tcmp op_notN lrIsNot (xix hu (xv 0) xstr) xnon) (wand1 (tcmp (oEq hu) lrEq (xv 7) xint))))
  (ss_one (s_asg (xtup (acons xstr (acons xstr anil))) (g_tup rfl (gs_cons (g_name 5 sc__law_reader_takes.nd) (gs_cons (g_name 6 sc__law_reader_takes.nd) gs_nil))))) (ss_cons (s_set 5 sc__law_reader_takes.nd (xif (tcmp (oEq hu) lrEq (xv 7) xint) xstr (xif (tcmp op_le lrLe (xv 7) (xix hu (xv 0) xstr)) xstr xstr)))
  (ss_cons (s_set 6 sc__law_reader_takes.nd (xif (tcmp (oEq hu) lrEq (xv 7) xint) (xv 5) (xtup (acons (xv 5) (acons (xv 7) anil)))))
  (ss_cons (s_setI hu (xv 0) xstr (xix hu (xv 1) xint))
  (ss_one (s_if (tcmp (oNe hu) lrNe (xv 5) xstr)
  (ss_one (s_asg (xtup (acons (xsl (xv 1) (xo_some xint) xo_none) (acons (xop oAdd lrAdd (xv 2) (xix hu (xv 0) xstr)) anil))) (g_tup rfl (gs_cons (g_sub hu (xv 0) xstr) (gs_cons (g_sub hu (xv 0) xstr) gs_nil))))) ss_nil)))))))) ss_nil)
  (ss_cons (s_setI hu (xix hu (xv 0) xstr) (xv 5) (xop oAdd lrAdd (xix hu (xix hu (xv 0) xstr) (xv 5)) xint))
  (ss_one (s_ret (xv 6))))))))

abbrev s__law_called : Stmt := topS 22
theorem sc__law_called : FnScope ["reader", "word", "octets", "now", "e"] ["reader", "word", "octets", "now"] (defScope s__law_called) := ⟨rfl, rfl, rfl, by decide +kernel, rfl, by decide +kernel, by decide +kernel⟩
theorem der__law_called {k : Nat} {f : Addr} {cdv : Value} {A : Around} {outer : List Env} {s : Shared} {H : Hp} {E : XK} {g0 : G} {H0 : Hp} {cl : CL} (T : Bl P K mg cl) (hr : Room k (A.deeper (envOfC "_law_called" (defScope s__law_called) s.heap.objs.size f cdv))) {sp_Reader_take : DSpX} {k_Reader_take : Nat} (G_Reader_take : KnownMX P w K mg base k_Reader_take (cl 0) "take" ["self", "octets", "now"] sp_Reader_take) (l_Reader_take : k_Reader_take ≤ k) {sp_Reader_go_on : DSpX} {k_Reader_go_on : Nat} (G_Reader_go_on : KnownMX P w K mg base k_Reader_go_on (cl 0) "go_on" ["self", "now"] sp_Reader_go_on) (l_Reader_go_on : k_Reader_go_on ≤ k) :
    XSs ⟨(cxOf CX0 P w K mg base ["reader", "word", "octets", "now", "e"] "_law_called" (defScope s__law_called) f cdv A outer s H E).nox, g0, H0⟩ (defBody s__law_called) (u__law_called cl sp_Reader_take sp_Reader_go_on) :=
  have hu := hr.units
  (ss_one (s_tryN 4 flies0 T.h_DeedWrong sc__law_called.nd (fun pn1 xe1 g11 H11 wd1 hF1 po1 =>
  (ss_one (s_ret (xtup (acons xstr (acons (xif (tcmp (oEq hu) lrEq (xv 1) xstr) (xmethX T.k_Reader G_Reader_take (hr.mono l_Reader_take) hF1 (xv 0) (acons (xv 2) (acons (xv 3) anil))) (xmethX T.k_Reader G_Reader_go_on (hr.mono l_Reader_go_on) hF1 (xv 0) (acons (xv 3) anil))) anil)))))) (fun a1 oe1 cls1 d1 pn1 g11 H11 nm1 at1 hz1 hf1 rx1 =>
  (ss_one (s_ret (xtup (acons xstr (acons (xexn 4 hz1 hf1 rx1 (.inl ⟨rfl, rfl⟩)) anil))))))))

abbrev s_law : Stmt := topS 23
theorem sc_law : FnScope ["script", "draws", "turn", "key", "most", "limit", "reader", "own", "k", "now", "kind", "last", "counter", "data", "j", "octets", "given", "told", "due", "back", "shown"] ["script"] (defScope s_law) := ⟨rfl, rfl, rfl, by decide +kernel, rfl, by decide +kernel, by decide +kernel⟩
theorem der_law {k : Nat} {f : Addr} {cdv : Value} {A : Around} {outer : List Env} {s : Shared} {H : Hp} {E : XK} {g0 : G} {H0 : Hp} {cl : CL} (T : Bl P K mg cl) (hr : Room k (A.deeper (envOfC "law" (defScope s_law) s.heap.objs.size f cdv))) {sp__law_draws : DSp} {k__law_draws : Nat} (G__law_draws : Known P w K mg base k__law_draws "_law_draws" ["script"] sp__law_draws) (l__law_draws : k__law_draws ≤ k) {sp__law_draw : DSp} {k__law_draw : Nat} (G__law_draw : Known P w K mg base k__law_draw "_law_draw" ["draws", "limit"] sp__law_draw) (l__law_draw : k__law_draw ≤ k) {sp__law_new_reader : DSp} {k__law_new_reader : Nat} (G__law_new_reader : Known P w K mg base k__law_new_reader "_law_new_reader" ["key", "most", "limit"] sp__law_new_reader) (l__law_new_reader : k__law_new_reader ≤ k) {sp_Reader___init__ : DSp} {k_Reader___init__ : Nat} (G_Reader___init__ : KnownI P w K mg base k_Reader___init__ "Reader" (cl 0) ["self", "key", "most", "limit"] sp_Reader___init__) (l_Reader___init__ : k_Reader___init__ + 1 ≤ k) {sp__law_guarded : DSp} {k__law_guarded : Nat} (G__law_guarded : Known P w K mg base k__law_guarded "_law_guarded" ["data", "counter", "key"] sp__law_guarded) (l__law_guarded : k__law_guarded ≤ k) {sp__law_reader_takes : DSp} {k__law_reader_takes : Nat} (G__law_reader_takes : Known P w K mg base k__law_reader_takes "_law_reader_takes" ["own", "octets", "now"] sp__law_reader_takes) (l__law_reader_takes : k__law_reader_takes ≤ k) {sp__law_called : DSp} {k__law_called : Nat} (G__law_called : Known P w K mg base k__law_called "_law_called" ["reader", "word", "octets", "now"] sp__law_called) (l__law_called : k__law_called ≤ k) {sp__law_reader_on : DSp} {k__law_reader_on : Nat} (G__law_reader_on : Known P w K mg base k__law_reader_on "_law_reader_on" ["own", "now"] sp__law_reader_on) (l__law_reader_on : k__law_reader_on ≤ k) {sp_Reader_tally : DSp} {k_Reader_tally : Nat} (G_Reader_tally : KnownM P w K mg base k_Reader_tally (cl 0) "tally" ["self"] sp_Reader_tally) (l_Reader_tally : k_Reader_tally ≤ k) {sp_Reader_due : DSp} {k_Reader_due : Nat} (G_Reader_due : KnownM P w K mg base k_Reader_due (cl 0) "due" ["self"] sp_Reader_due) (l_Reader_due : k_Reader_due ≤ k) {sp_Reader_data : DSp} {k_Reader_data : Nat} (G_Reader_data : KnownM P w K mg base k_Reader_data (cl 0) "data" ["self"] sp_Reader_data) (l_Reader_data : k_Reader_data ≤ k) {sp__law_same : DSp} {k__law_same : Nat} (G__law_same : Known P w K mg base k__law_same "_law_same" ["x", "due"] sp__law_same) (l__law_same : k__law_same ≤ k) :
    XSs ⟨(cxOf CX0 P w K mg base ["script", "draws", "turn", "key", "most", "limit", "reader", "own", "k", "now", "kind", "last", "counter", "data", "j", "octets", "given", "told", "due", "back", "shown"] "law" (defScope s_law) f cdv A outer s H E).nox, g0, H0⟩ (defBody s_law) (u_law cl sp__law_draws sp__law_draw sp__law_new_reader sp_Reader___init__ sp__law_guarded sp__law_reader_takes sp__law_called sp__law_reader_on sp_Reader_tally sp_Reader_due sp_Reader_data sp__law_same) :=
  have hu := hr.units
  (ss_cons (s_set 1 sc_law.nd (xcall G__law_draws (hr.mono l__law_draws) (acons (xv 0) anil)))
  (ss_cons (s_for PassesOwn.never rfl (i_rng1 rfl T.range (acons xint anil)) (g_name 2 sc_law.nd)
  (ss_cons (s_par3 3 4 5 rfl sc_law.nd (acons (xcall G__law_draw (hr.mono l__law_draw) (acons (xv 1) (acons xint anil))) (acons (xix hu (xlst (acons xint (acons xint (acons xint (acons xint (acons xint (acons xint anil))))))) (xcall G__law_draw (hr.mono l__law_draw) (acons (xv 1) (acons xint anil)))) (acons (xix hu (xlst (acons xint (acons xint (acons xint anil)))) (xcall G__law_draw (hr.mono l__law_draw) (acons (xv 1) (acons xint anil)))) anil))))
  (ss_cons (s_par 6 7 rfl sc_law.nd (acons (xmake G_Reader___init__ (hr.mono l_Reader___init__) (acons (xv 3) (acons (xv 4) (acons (xv 5) anil)))) (acons (xcall G__law_new_reader (hr.mono l__law_new_reader) (acons (xv 3) (acons (xv 4) (acons (xv 5) anil)))) anil)))
  (ss_one (s_for PassesOwn.never rfl (i_rng1 rfl T.range (acons (xop oAdd lrAdd xint (xcall G__law_draw (hr.mono l__law_draw) (acons (xv 1) (acons xint anil)))) anil)) (g_name 8 sc_law.nd)
  (ss_cons (s_set 9 sc_law.nd (xop oAdd lrAdd (xix hu (xv 7) xstr) (xix hu (xlst (acons xint (acons xint (acons xint (acons (xop op_sub lrSub (xv 5) xint) (acons (xv 5) (acons (xop oAdd lrAdd (xv 5) xint) (acons (xop oMul lrTimes xint (xv 5)) anil)))))))) (xcall G__law_draw (hr.mono l__law_draw) (acons (xv 1) (acons xint anil))))))
  (ss_cons (s_set 10 sc_law.nd (xcall G__law_draw (hr.mono l__law_draw) (acons (xv 1) (acons xint anil))))
  (ss_cons (s_if (tcmp op_lt lrLt (xv 10) xint)
  (ss_cons (s_set 11 sc_law.nd (xif (tcmp op_isN lrIs (xix hu (xv 7) xstr) xnon) xint (xix hu (xv 7) xstr)))
  (ss_cons (s_set 12 sc_law.nd (xop op_mod lrMod (xct cInt lcInt T.int boot_int (acons (xop oAdd lrAdd (xv 11) (xix hu (xlst (acons xint (acons xint (acons xint (acons xint (acons xint (acons xint (acons xint (acons xint (acons (xcall G__law_draw (hr.mono l__law_draw) (acons (xv 1) (acons xint anil))) anil)))))))))) (xcall G__law_draw (hr.mono l__law_draw) (acons (xv 1) (acons xint anil))))) anil)) xint))
  (ss_cons (by first | exact s_set 13 sc_law.nd (xlc (own := [("j", 14)]) rfl sc_law.nd (i_rng1 rfl T.range (acons (xcall G__law_draw (hr.mono l__law_draw) (acons (xv 1) (acons xint anil))) anil)) (blkOk_by (N := ["script", "draws", "turn", "key", "most", "limit", "reader", "own", "k", "now", "kind", "last", "counter", "data", "j", "octets", "given", "told", "due", "back", "shown"]) (sc := defScope s_law) (by decide +kernel)) (lt_name 14 sc_law.nd) (fun _ _ _ _ _ => ts_nil) (fun _ _ _ _ _ => (xcall G__law_draw (hr.mono l__law_draw) (acons (xv 1) (acons xint anil))))) | exact s_setLc 13 (own := [("j", 14)]) rfl sc_law.nd (i_rng1 rfl T.range (acons (xcall G__law_draw (hr.mono l__law_draw) (acons (xv 1) (acons xint anil))) anil)) (blkOk_by (N := ["script", "draws", "turn", "key", "most", "limit", "reader", "own", "k", "now", "kind", "last", "counter", "data", "j", "octets", "given", "told", "due", "back", "shown"]) (sc := defScope s_law) (by decide +kernel)) (lt_name 14 sc_law.nd) (fun _ _ _ _ _ => ts_nil) (fun _ _ _ _ _ => (xcall G__law_draw (hr.mono l__law_draw) (acons (xv 1) (acons xint anil)))) (by rfl))
  (ss_cons (s_set 15 sc_law.nd (xcall G__law_guarded (hr.mono l__law_guarded) (acons (xv 13) (acons (xv 12) (acons (xif (tcmp op_gt lrGt (xcall G__law_draw (hr.mono l__law_draw) (acons (xv 1) (acons xint anil))) xint) (xv 3) (xop op_xor lrBxor (xv 3) xint)) anil)))))
  (ss_cons (s_set 15 sc_law.nd (xif (tcmp op_gt lrGt (xcall G__law_draw (hr.mono l__law_draw) (acons (xv 1) (acons xint anil))) xint) (xv 15) (xix hu (xlst (acons (xlst anil) (acons (xlst (acons xint anil)) (acons (xlst (acons xint (acons xint anil))) (acons (xsl (xv 15) xo_none (xo_some (xun un_neg luNeg xint))) (acons (xop oAdd lrAdd (xv 15) (xlst (acons xint anil))) (acons (xop oAdd lrAdd (xlst (acons xint anil)) (xsl (xv 15) (xo_some xint) xo_none)) anil))))))) (xcall G__law_draw (hr.mono l__law_draw) (acons (xv 1) (acons xint anil))))))
  (ss_cons (s_set 16 sc_law.nd (xct call_list_of lcListN T.list boot_list (acons (xv 15) anil)))
  (ss_cons (s_par 17 18 rfl sc_law.nd (acons (xcall G__law_called (hr.mono l__law_called) (acons (xv 6) (acons xstr (acons (xv 16) (acons (xv 9) anil))))) (acons (xtup (acons xstr (acons (xcall G__law_reader_takes (hr.mono l__law_reader_takes) (acons (xv 7) (acons (xv 15) (acons (xv 9) anil)))) anil))) anil)))
  (ss_one (s_expr (xapp (xv 16) (acons xint anil))))))))))) (ss_one (s_if (tcmp (oEq hu) lrEq (xv 10) xint)
  (ss_one (s_par 17 18 rfl sc_law.nd (acons (xcall G__law_called (hr.mono l__law_called) (acons (xv 6) (acons xstr (acons xnon (acons (xv 9) anil))))) (acons (xtup (acons xstr (acons (xcall G__law_reader_on (hr.mono l__law_reader_on) (acons (xv 7) (acons (xv 9) anil))) anil))) anil)))) (ss_cons (s_set 19 sc_law.nd (xop op_sub lrSub (xix hu (xv 7) xstr) xint))
  (ss_one (s_par 17 18 rfl sc_law.nd (acons (xcall G__law_called (hr.mono l__law_called) (acons (xv 6) (acons (xix hu (xlst (acons xstr (acons xstr anil))) (xcall G__law_draw (hr.mono l__law_draw) (acons (xv 1) (acons xint anil)))) (acons (xlst anil) (acons (xv 19) anil))))) (acons (xtup (acons xstr (acons (xv 19) anil))) anil))))))))
  (ss_cons (s_set 20 sc_law.nd (xlst (acons (xv 17) (acons (xmeth0 T.k_Reader G_Reader_data (hr.mono l_Reader_data) (xv 6)) (acons (xmeth0 T.k_Reader G_Reader_due (hr.mono l_Reader_due) (xv 6)) (acons (xmeth0 T.k_Reader G_Reader_tally (hr.mono l_Reader_tally) (xv 6)) anil))))))
  (ss_cons (s_if (tnot (tval (xcall G__law_same (hr.mono l__law_same) (acons (xv 20) (acons (xlst (acons (xv 18) (acons (xix hu (xv 7) xstr) (acons (xix hu (xv 7) xstr) (acons (xix hu (xv 7) xstr) anil))))) anil)))))
  (ss_one (s_ret xbl)) ss_nil)
  (ss_cons (s_setI hu (xix hu (xv 20) xint) xstr (xun un_neg luNeg xint))
  (ss_one (s_if (tcmp op_notN lrIsNot (xix hu (xv 20) xint) xnon)
  (ss_one (s_expr (xapp (xix hu (xv 20) xint) (acons xint anil)))) ss_nil)))))))))))))
  (ss_one (s_ret xbl))))
end
end K81

namespace K81
open PySem PySem.Spec PyProof.Rows L2 AX PF PQ PS
open PB hiding u__law_same use__law_same len__law_same none__law_same same_items same_tail b_same
section
variable {P : Program} {w : World} {K : PySem.W.Frag} {mg : Str → Option Value} {base : Heap}
theorem ok__law_draws {f : Addr} {fd : FuncData} {cl : CL} (F : Fun K "_law_draws" "_law_draws" s__law_draws f fd) (T : Bl P K mg cl) : FnOk P w K mg base CX0 1 f fd ["script"] (liftSp K spDraws) :=
  fn_ok (k := 0) F sc__law_draws (len__law_draws) fun cdv A outer s H E g0 H0 hr => ⟨_, der__law_draws T hr, use__law_draws⟩
theorem ok__law_draw {f : Addr} {fd : FuncData} {cl : CL} (F : Fun K "_law_draw" "_law_draw" s__law_draw f fd) (T : Bl P K mg cl) : FnOk P w K mg base CX0 1 f fd ["draws", "limit"] (liftSp K spDraw) :=
  fn_ok (k := 0) F sc__law_draw (len__law_draw) fun cdv A outer s H E g0 H0 hr => ⟨_, der__law_draw T hr, use__law_draw⟩
theorem ok__law_new_reader {f : Addr} {fd : FuncData} {cl : CL} (F : Fun K "_law_new_reader" "_law_new_reader" s__law_new_reader f fd) (T : Bl P K mg cl) : FnOk P w K mg base CX0 1 f fd ["key", "most", "limit"] (liftSp K (sp__law_new_reader cl)) :=
  fn_ok (k := 0) F sc__law_new_reader (len__law_new_reader cl) fun cdv A outer s H E g0 H0 hr => ⟨_, der__law_new_reader T hr, use__law_new_reader cl⟩
theorem ok_Reader___init__ {f : Addr} {fd : FuncData} {cl : CL} (F : Fun K "__init__" "Reader.__init__" s_Reader___init__ f fd) (T : Bl P K mg cl) : FnOk P w K mg base CX0 1 f fd ["self", "key", "most", "limit"] (liftSp K (sp_Reader___init__ cl)) :=
  fn_ok (k := 0) F sc_Reader___init__ (len_Reader___init__ cl) fun cdv A outer s H E g0 H0 hr => ⟨_, der_Reader___init__ T hr, use_Reader___init__ cl⟩
theorem ok__law_check {f : Addr} {fd : FuncData} {cl : CL} (F : Fun K "_law_check" "_law_check" s__law_check f fd) (T : Bl P K mg cl) : FnOk P w K mg base CX0 1 f fd ["octets"] (liftSp K sp__law_check) :=
  fn_ok (k := 0) F sc__law_check (len__law_check) fun cdv A outer s H E g0 H0 hr => ⟨_, der__law_check T hr, use__law_check⟩
theorem ok__law_guarded {f : Addr} {fd : FuncData} {cl : CL} (F : Fun K "_law_guarded" "_law_guarded" s__law_guarded f fd) (T : Bl P K mg cl) (G__law_check : Known P w K mg base 1 "_law_check" ["octets"] sp__law_check) : FnOk P w K mg base CX0 2 f fd ["data", "counter", "key"] (liftSp K sp__law_guarded) :=
  fn_ok (k := 1) F sc__law_guarded (len__law_guarded) fun cdv A outer s H E g0 H0 hr => ⟨_, der__law_guarded T hr G__law_check (by decide), use__law_guarded⟩
theorem ok__law_reader_on {f : Addr} {fd : FuncData} {cl : CL} (F : Fun K "_law_reader_on" "_law_reader_on" s__law_reader_on f fd) (T : Bl P K mg cl) : FnOk P w K mg base CX0 1 f fd ["own", "now"] (liftSp K (sp__law_reader_on cl)) :=
  fn_ok (k := 0) F sc__law_reader_on (len__law_reader_on cl) fun cdv A outer s H E g0 H0 hr => ⟨_, der__law_reader_on T hr, use__law_reader_on cl⟩
theorem ok__law_reader_takes {f : Addr} {fd : FuncData} {cl : CL} (F : Fun K "_law_reader_takes" "_law_reader_takes" s__law_reader_takes f fd) (T : Bl P K mg cl) (G__law_reader_on : Known P w K mg base 1 "_law_reader_on" ["own", "now"] (sp__law_reader_on cl)) (G__law_guarded : Known P w K mg base 2 "_law_guarded" ["data", "counter", "key"] sp__law_guarded) : FnOk P w K mg base CX0 3 f fd ["own", "octets", "now"] (liftSp K (sp__law_reader_takes cl)) :=
  fn_ok (k := 2) F sc__law_reader_takes (len__law_reader_takes cl) fun cdv A outer s H E g0 H0 hr => ⟨_, der__law_reader_takes T hr G__law_reader_on (by decide) G__law_guarded (by decide), use__law_reader_takes cl⟩
theorem ok_Reader_go_on {f : Addr} {fd : FuncData} {cl : CL} (F : Fun K "go_on" "Reader.go_on" s_Reader_go_on f fd) (T : Bl P K mg cl) : FnOk P w K mg base (L2.CX P w) 4 f fd ["self", "now"] (liftSpX K mg (sp_Reader_go_on cl)) :=
  fn_okX (k := 3) F sc_Reader_go_on (len_Reader_go_on cl) (fun cdv A outer s H E g0 H0 wd hr hF po => der_Reader_go_on T hr (by decide) hF po) (use_Reader_go_on cl)
theorem ok_is_number {f : Addr} {fd : FuncData} {cl : CL} (F : Fun K "is_number" "is_number" s_is_number f fd) (T : Bl P K mg cl) : FnOk P w K mg base CX0 1 f fd ["thing", "low", "high"] (liftSp K sp_is_number) :=
  fn_ok (k := 0) F sc_is_number (len_is_number) fun cdv A outer s H E g0 H0 hr => ⟨_, der_is_number T hr, use_is_number⟩
theorem ok_is_octets {f : Addr} {fd : FuncData} {cl : CL} (F : Fun K "is_octets" "is_octets" s_is_octets f fd) (T : Bl P K mg cl) (G_is_number : Known P w K mg base 1 "is_number" ["thing", "low", "high"] sp_is_number) : FnOk P w K mg base CX0 2 f fd ["thing", "most"] (liftSp K sp_is_octets) :=
  fn_ok (k := 1) F sc_is_octets (len_is_octets) fun cdv A outer s H E g0 H0 hr => ⟨_, der_is_octets T hr G_is_number (by decide), use_is_octets⟩
theorem ok_check_of {f : Addr} {fd : FuncData} {cl : CL} (F : Fun K "check_of" "check_of" s_check_of f fd) (T : Bl P K mg cl) : FnOk P w K mg base CX0 1 f fd ["octets"] (liftSp K sp_check_of) :=
  fn_ok (k := 0) F sc_check_of (len_check_of) fun cdv A outer s H E g0 H0 hr => ⟨_, der_check_of T hr, use_check_of⟩
theorem ok_guarded {f : Addr} {fd : FuncData} {cl : CL} (F : Fun K "guarded" "guarded" s_guarded f fd) (T : Bl P K mg cl) (G_is_octets : Known P w K mg base 2 "is_octets" ["thing", "most"] sp_is_octets) (G_is_number : Known P w K mg base 1 "is_number" ["thing", "low", "high"] sp_is_number) (G_check_of : Known P w K mg base 1 "check_of" ["octets"] sp_check_of) : FnOk P w K mg base (L2.CX P w) 4 f fd ["data", "counter", "key"] (liftSpX K mg sp_guarded) :=
  fn_okX (k := 3) F sc_guarded len_guarded (fun cdv A outer s H E g0 H0 wd hr hF po => der_guarded T hr (by decide) hF po G_is_octets (by decide) G_is_number (by decide) G_check_of (by decide)) use_guarded
theorem ok_Reader_is_right {f : Addr} {fd : FuncData} {cl : CL} (F : Fun K "is_right" "Reader.is_right" s_Reader_is_right f fd) (T : Bl P K mg cl) (G_is_octets : Known P w K mg base 2 "is_octets" ["thing", "most"] sp_is_octets) (G_guarded : KnownX P w K mg base 4 "guarded" ["data", "counter", "key"] sp_guarded) : FnOk P w K mg base CX0 5 f fd ["self", "octets"] (liftSp K (sp_Reader_is_right cl)) :=
  fn_ok (k := 4) F sc_Reader_is_right (len_Reader_is_right cl) fun cdv A outer s H E g0 H0 hr => ⟨_, der_Reader_is_right T hr G_is_octets (by decide) G_guarded (by decide), use_Reader_is_right cl⟩
theorem ok_Reader_counted {f : Addr} {fd : FuncData} {cl : CL} (F : Fun K "counted" "Reader.counted" s_Reader_counted f fd) (T : Bl P K mg cl) : FnOk P w K mg base CX0 1 f fd ["self", "word", "told"] (liftSp K (sp_Reader_counted cl)) :=
  fn_ok (k := 0) F sc_Reader_counted (len_Reader_counted cl) fun cdv A outer s H E g0 H0 hr => ⟨_, der_Reader_counted T hr, use_Reader_counted cl⟩
theorem ok_Reader_good {f : Addr} {fd : FuncData} {cl : CL} (F : Fun K "good" "Reader.good" s_Reader_good f fd) (T : Bl P K mg cl) (G_Reader_counted : KnownM P w K mg base 1 (cl 0) "counted" ["self", "word", "told"] (sp_Reader_counted cl)) : FnOk P w K mg base CX0 2 f fd ["self", "octets", "word", "told"] (liftSp K (sp_Reader_good cl)) :=
  fn_ok (k := 1) F sc_Reader_good (len_Reader_good cl) fun cdv A outer s H E g0 H0 hr => ⟨_, der_Reader_good T hr G_Reader_counted (by decide), use_Reader_good cl⟩
theorem ok_Reader_take {f : Addr} {fd : FuncData} {cl : CL} (F : Fun K "take" "Reader.take" s_Reader_take f fd) (T : Bl P K mg cl) (G_Reader_go_on : KnownMX P w K mg base 4 (cl 0) "go_on" ["self", "now"] (sp_Reader_go_on cl)) (G_Reader_is_right : KnownM P w K mg base 5 (cl 0) "is_right" ["self", "octets"] (sp_Reader_is_right cl)) (G_Reader_counted : KnownM P w K mg base 1 (cl 0) "counted" ["self", "word", "told"] (sp_Reader_counted cl)) (G_Reader_good : KnownM P w K mg base 2 (cl 0) "good" ["self", "octets", "word", "told"] (sp_Reader_good cl)) : FnOk P w K mg base (L2.CX P w) 6 f fd ["self", "octets", "now"] (liftSpX K mg (sp_Reader_take cl)) :=
  fn_okX (k := 5) F sc_Reader_take (len_Reader_take cl) (fun cdv A outer s H E g0 H0 wd hr hF po => der_Reader_take T hr hF po G_Reader_go_on (by decide) G_Reader_is_right (by decide) G_Reader_counted (by decide) G_Reader_good (by decide)) (use_Reader_take cl)
theorem ok__law_called {f : Addr} {fd : FuncData} {cl : CL} (F : Fun K "_law_called" "_law_called" s__law_called f fd) (T : Bl P K mg cl) (G_Reader_take : KnownMX P w K mg base 6 (cl 0) "take" ["self", "octets", "now"] (sp_Reader_take cl)) (G_Reader_go_on : KnownMX P w K mg base 4 (cl 0) "go_on" ["self", "now"] (sp_Reader_go_on cl)) : FnOk P w K mg base CX0 7 f fd ["reader", "word", "octets", "now"] (liftSp K (sp__law_called cl)) :=
  fn_ok (k := 6) F sc__law_called (len__law_called cl) fun cdv A outer s H E g0 H0 hr => ⟨_, der__law_called T hr G_Reader_take (by decide) G_Reader_go_on (by decide), use__law_called cl⟩
theorem ok_Reader_tally {f : Addr} {fd : FuncData} {cl : CL} (F : Fun K "tally" "Reader.tally" s_Reader_tally f fd) (T : Bl P K mg cl) : FnOk P w K mg base CX0 1 f fd ["self"] (liftSp K (sp_Reader_tally cl)) :=
  fn_ok (k := 0) F sc_Reader_tally (len_Reader_tally cl) fun cdv A outer s H E g0 H0 hr => ⟨_, der_Reader_tally T hr, use_Reader_tally cl⟩
theorem ok_Reader_due {f : Addr} {fd : FuncData} {cl : CL} (F : Fun K "due" "Reader.due" s_Reader_due f fd) (T : Bl P K mg cl) : FnOk P w K mg base CX0 1 f fd ["self"] (liftSp K (sp_Reader_due cl)) :=
  fn_ok (k := 0) F sc_Reader_due (len_Reader_due cl) fun cdv A outer s H E g0 H0 hr => ⟨_, der_Reader_due T hr, use_Reader_due cl⟩
theorem ok_Reader_data {f : Addr} {fd : FuncData} {cl : CL} (F : Fun K "data" "Reader.data" s_Reader_data f fd) (T : Bl P K mg cl) : FnOk P w K mg base CX0 1 f fd ["self"] (liftSp K (sp_Reader_data cl)) :=
  fn_ok (k := 0) F sc_Reader_data (len_Reader_data cl) fun cdv A outer s H E g0 H0 hr => ⟨_, der_Reader_data T hr, use_Reader_data cl⟩
theorem ok__law_same {f : Addr} {fd : FuncData} {cl : CL} (F : Fun K "_law_same" "_law_same" s__law_same f fd) (T : Bl P K mg cl) (hm : mg "_law_same" = some (.ref f)) (hb : Binds K fd ["x", "due"] []) : ∀ n, FnOk P w K mg base CX0 (n + 0 + 1) f fd ["x", "due"] (liftSp K (spSameS n))
  | 0 => fn_none F sc__law_same none__law_same
  | n + 1 => fn_ok F sc__law_same len__law_same fun cdv A outer s H E g0 H0 hr => ⟨_, der__law_same T hr (known_mk F (ok__law_same F T hm hb n) hm hb) (Nat.le_of_eq (by omega)), use__law_same⟩
theorem ok_law {f : Addr} {fd : FuncData} {cl : CL} (F : Fun K "law" "law" s_law f fd) (T : Bl P K mg cl) (G__law_draws : Known P w K mg base 1 "_law_draws" ["script"] spDraws) (G__law_draw : Known P w K mg base 1 "_law_draw" ["draws", "limit"] spDraw) (G__law_new_reader : Known P w K mg base 1 "_law_new_reader" ["key", "most", "limit"] (sp__law_new_reader cl)) (G_Reader___init__ : KnownI P w K mg base 1 "Reader" (cl 0) ["self", "key", "most", "limit"] (sp_Reader___init__ cl)) (G__law_guarded : Known P w K mg base 2 "_law_guarded" ["data", "counter", "key"] sp__law_guarded) (G__law_reader_takes : Known P w K mg base 3 "_law_reader_takes" ["own", "octets", "now"] (sp__law_reader_takes cl)) (G__law_called : Known P w K mg base 7 "_law_called" ["reader", "word", "octets", "now"] (sp__law_called cl)) (G__law_reader_on : Known P w K mg base 1 "_law_reader_on" ["own", "now"] (sp__law_reader_on cl)) (G_Reader_tally : KnownM P w K mg base 1 (cl 0) "tally" ["self"] (sp_Reader_tally cl)) (G_Reader_due : KnownM P w K mg base 1 (cl 0) "due" ["self"] (sp_Reader_due cl)) (G_Reader_data : KnownM P w K mg base 1 (cl 0) "data" ["self"] (sp_Reader_data cl)) (G__law_same : Known P w K mg base 9 "_law_same" ["x", "due"] (spSameS 8)) : FnOk P w K mg base CX0 10 f fd ["script"] (liftSp K (spLawD 63)) :=
  fn_ok (k := 9) F sc_law len_lawD fun cdv A outer s H E g0 H0 hr => ⟨_, der_law T hr G__law_draws (by decide) G__law_draw (by decide) G__law_new_reader (by decide) G_Reader___init__ (by decide) G__law_guarded (by decide) G__law_reader_takes (by decide) G__law_called (by decide) G__law_reader_on (by decide) G_Reader_tally (by decide) G_Reader_due (by decide) G_Reader_data (by decide) G__law_same (by decide), use_law cl⟩
end
theorem all_mk {l : PySem.W.OpenLaw} {w : World} {K : PySem.W.Frag} {h : Heap} {mg : Str → Option Value} {fa f1 f2 f3 f4 f5 f6 f7 f8 f9 f10 f11 f12 f13 f14 f15 f16 f17 f18 f19 f20 f21 f22 f23 : Addr} (X : K.In h) (G : h.Ns mainGlobals mg) (hfa : mg "law" = some (.ref fa)) {C_Reader : Addr}
    {od1 an1 od2 an2 od3 an3 od4 an4 od5 an5 od6 an6 od7 an7 od8 an8 od9 an9 od10 an10 od11 an11 od12 an12 od13 an13 od14 an14 od15 an15 od16 an16 od17 an17 od18 an18 od19 an19 od20 an20 od21 an21 od22 an22 od23 an23 : Option Addr} {sl1 sl2 sl3 sl4 sl5 sl6 sl7 sl8 sl9 sl10 sl11 sl12 sl13 sl14 sl15 sl16 sl17 sl18 sl19 sl20 sl21 sl22 sl23 : Array (Option Value)} {oc1 kV1 dc1 pm1 cd1 ct1 oc2 kV2 dc2 pm2 cd2 ct2 oc3 kV3 dc3 pm3 cd3 ct3 oc4 kV4 dc4 pm4 cd4 ct4 oc5 kV5 dc5 pm5 cd5 ct5 oc6 kV6 dc6 pm6 cd6 ct6 oc7 kV7 dc7 pm7 cd7 ct7 oc8 kV8 dc8 pm8 cd8 ct8 oc9 kV9 dc9 pm9 cd9 ct9 oc10 kV10 dc10 pm10 cd10 ct10 oc11 kV11 dc11 pm11 cd11 ct11 oc12 kV12 dc12 pm12 cd12 ct12 oc13 kV13 dc13 pm13 cd13 ct13 oc14 kV14 dc14 pm14 cd14 ct14 oc15 kV15 dc15 pm15 cd15 ct15 oc16 kV16 dc16 pm16 cd16 ct16 oc17 kV17 dc17 pm17 cd17 ct17 oc18 kV18 dc18 pm18 cd18 ct18 oc19 kV19 dc19 pm19 cd19 ct19 oc20 kV20 dc20 pm20 cd20 ct20 oc21 kV21 dc21 pm21 cd21 ct21 oc22 kV22 dc22 pm22 cd22 ct22 oc23 kV23 dc23 pm23 cd23 ct23 : Value}
    (kC_Reader : PySem.W.nsIn K mainGlobals "Reader" = some (some (.ref C_Reader))) (kp_Reader : PySem.W.plainGet K C_Reader Str.empty = true) (kd_Reader : PySem.W.hasDictIn K C_Reader = true) (ko_Reader : PySem.W.plainOver K C_Reader = true) (ks_Reader : PySem.W.findIn K (.ref C_Reader) "__setattr__" = some (some (.builtin "object.__setattr__"))) (km_Reader : PySem.W.makesIn K C_Reader = true) (kk_Reader : PySem.W.keepIn K (.ref C_Reader) = true)
    (kf_Reader_0 : PySem.W.findIn K (.ref C_Reader) "key" = some none)
    (kf_Reader_1 : PySem.W.findIn K (.ref C_Reader) "most" = some none)
    (kf_Reader_2 : PySem.W.findIn K (.ref C_Reader) "limit" = some none)
    (kf_Reader_3 : PySem.W.findIn K (.ref C_Reader) "now" = some none)
    (kf_Reader_4 : PySem.W.findIn K (.ref C_Reader) "counter" = some none)
    (kf_Reader_5 : PySem.W.findIn K (.ref C_Reader) "last" = some none)
    (kf_Reader_6 : PySem.W.findIn K (.ref C_Reader) "bell" = some none)
    (kf_Reader_7 : PySem.W.findIn K (.ref C_Reader) "counts" = some none)
    (a1 : PySem.W.nsIn K mainGlobals "_law_draws" = some (some (.ref f1))) (l1 : K.lookup f1 = some ⟨oc1, od1, .func (PySem.W.fnOf "_law_draws" "_law_draws" (defArgs s__law_draws) (defBody s__law_draws) (defScope s__law_draws) .none kV1 dc1 pm1 an1 cd1 ct1), sl1⟩) (c1 : PySem.W.codeIn K cd1 "_law_draws" = true) (k1 : PySem.W.keepIn K (.ref f1) = true)
    (a2 : PySem.W.nsIn K mainGlobals "_law_draw" = some (some (.ref f2))) (l2 : K.lookup f2 = some ⟨oc2, od2, .func (PySem.W.fnOf "_law_draw" "_law_draw" (defArgs s__law_draw) (defBody s__law_draw) (defScope s__law_draw) .none kV2 dc2 pm2 an2 cd2 ct2), sl2⟩) (c2 : PySem.W.codeIn K cd2 "_law_draw" = true) (k2 : PySem.W.keepIn K (.ref f2) = true)
    (a3 : PySem.W.nsIn K mainGlobals "_law_new_reader" = some (some (.ref f3))) (l3 : K.lookup f3 = some ⟨oc3, od3, .func (PySem.W.fnOf "_law_new_reader" "_law_new_reader" (defArgs s__law_new_reader) (defBody s__law_new_reader) (defScope s__law_new_reader) .none kV3 dc3 pm3 an3 cd3 ct3), sl3⟩) (c3 : PySem.W.codeIn K cd3 "_law_new_reader" = true) (k3 : PySem.W.keepIn K (.ref f3) = true)
    (a4 : PySem.W.findIn K (.ref C_Reader) "__init__" = some (some (.ref f4))) (fn4 : PySem.W.isFn K (.ref f4) = true) (l4 : K.lookup f4 = some ⟨oc4, od4, .func (PySem.W.fnOf "__init__" "Reader.__init__" (defArgs s_Reader___init__) (defBody s_Reader___init__) (defScope s_Reader___init__) .none kV4 dc4 pm4 an4 cd4 ct4), sl4⟩) (c4 : PySem.W.codeIn K cd4 "Reader.__init__" = true) (k4 : PySem.W.keepIn K (.ref f4) = true)
    (a5 : PySem.W.nsIn K mainGlobals "_law_check" = some (some (.ref f5))) (l5 : K.lookup f5 = some ⟨oc5, od5, .func (PySem.W.fnOf "_law_check" "_law_check" (defArgs s__law_check) (defBody s__law_check) (defScope s__law_check) .none kV5 dc5 pm5 an5 cd5 ct5), sl5⟩) (c5 : PySem.W.codeIn K cd5 "_law_check" = true) (k5 : PySem.W.keepIn K (.ref f5) = true)
    (a6 : PySem.W.nsIn K mainGlobals "_law_guarded" = some (some (.ref f6))) (l6 : K.lookup f6 = some ⟨oc6, od6, .func (PySem.W.fnOf "_law_guarded" "_law_guarded" (defArgs s__law_guarded) (defBody s__law_guarded) (defScope s__law_guarded) .none kV6 dc6 pm6 an6 cd6 ct6), sl6⟩) (c6 : PySem.W.codeIn K cd6 "_law_guarded" = true) (k6 : PySem.W.keepIn K (.ref f6) = true)
    (a7 : PySem.W.nsIn K mainGlobals "_law_reader_on" = some (some (.ref f7))) (l7 : K.lookup f7 = some ⟨oc7, od7, .func (PySem.W.fnOf "_law_reader_on" "_law_reader_on" (defArgs s__law_reader_on) (defBody s__law_reader_on) (defScope s__law_reader_on) .none kV7 dc7 pm7 an7 cd7 ct7), sl7⟩) (c7 : PySem.W.codeIn K cd7 "_law_reader_on" = true) (k7 : PySem.W.keepIn K (.ref f7) = true)
    (a8 : PySem.W.nsIn K mainGlobals "_law_reader_takes" = some (some (.ref f8))) (l8 : K.lookup f8 = some ⟨oc8, od8, .func (PySem.W.fnOf "_law_reader_takes" "_law_reader_takes" (defArgs s__law_reader_takes) (defBody s__law_reader_takes) (defScope s__law_reader_takes) .none kV8 dc8 pm8 an8 cd8 ct8), sl8⟩) (c8 : PySem.W.codeIn K cd8 "_law_reader_takes" = true) (k8 : PySem.W.keepIn K (.ref f8) = true)
    (a9 : PySem.W.findIn K (.ref C_Reader) "go_on" = some (some (.ref f9))) (fn9 : PySem.W.isFn K (.ref f9) = true) (l9 : K.lookup f9 = some ⟨oc9, od9, .func (PySem.W.fnOf "go_on" "Reader.go_on" (defArgs s_Reader_go_on) (defBody s_Reader_go_on) (defScope s_Reader_go_on) .none kV9 dc9 pm9 an9 cd9 ct9), sl9⟩) (c9 : PySem.W.codeIn K cd9 "Reader.go_on" = true) (k9 : PySem.W.keepIn K (.ref f9) = true)
    (a10 : PySem.W.nsIn K mainGlobals "is_number" = some (some (.ref f10))) (l10 : K.lookup f10 = some ⟨oc10, od10, .func (PySem.W.fnOf "is_number" "is_number" (defArgs s_is_number) (defBody s_is_number) (defScope s_is_number) .none kV10 dc10 pm10 an10 cd10 ct10), sl10⟩) (c10 : PySem.W.codeIn K cd10 "is_number" = true) (k10 : PySem.W.keepIn K (.ref f10) = true)
    (a11 : PySem.W.nsIn K mainGlobals "is_octets" = some (some (.ref f11))) (l11 : K.lookup f11 = some ⟨oc11, od11, .func (PySem.W.fnOf "is_octets" "is_octets" (defArgs s_is_octets) (defBody s_is_octets) (defScope s_is_octets) .none kV11 dc11 pm11 an11 cd11 ct11), sl11⟩) (c11 : PySem.W.codeIn K cd11 "is_octets" = true) (k11 : PySem.W.keepIn K (.ref f11) = true)
    (a12 : PySem.W.nsIn K mainGlobals "check_of" = some (some (.ref f12))) (l12 : K.lookup f12 = some ⟨oc12, od12, .func (PySem.W.fnOf "check_of" "check_of" (defArgs s_check_of) (defBody s_check_of) (defScope s_check_of) .none kV12 dc12 pm12 an12 cd12 ct12), sl12⟩) (c12 : PySem.W.codeIn K cd12 "check_of" = true) (k12 : PySem.W.keepIn K (.ref f12) = true)
    (a13 : PySem.W.nsIn K mainGlobals "guarded" = some (some (.ref f13))) (l13 : K.lookup f13 = some ⟨oc13, od13, .func (PySem.W.fnOf "guarded" "guarded" (defArgs s_guarded) (defBody s_guarded) (defScope s_guarded) .none kV13 dc13 pm13 an13 cd13 ct13), sl13⟩) (c13 : PySem.W.codeIn K cd13 "guarded" = true) (k13 : PySem.W.keepIn K (.ref f13) = true)
    (a14 : PySem.W.findIn K (.ref C_Reader) "is_right" = some (some (.ref f14))) (fn14 : PySem.W.isFn K (.ref f14) = true) (l14 : K.lookup f14 = some ⟨oc14, od14, .func (PySem.W.fnOf "is_right" "Reader.is_right" (defArgs s_Reader_is_right) (defBody s_Reader_is_right) (defScope s_Reader_is_right) .none kV14 dc14 pm14 an14 cd14 ct14), sl14⟩) (c14 : PySem.W.codeIn K cd14 "Reader.is_right" = true) (k14 : PySem.W.keepIn K (.ref f14) = true)
    (a15 : PySem.W.findIn K (.ref C_Reader) "counted" = some (some (.ref f15))) (fn15 : PySem.W.isFn K (.ref f15) = true) (l15 : K.lookup f15 = some ⟨oc15, od15, .func (PySem.W.fnOf "counted" "Reader.counted" (defArgs s_Reader_counted) (defBody s_Reader_counted) (defScope s_Reader_counted) .none kV15 dc15 pm15 an15 cd15 ct15), sl15⟩) (c15 : PySem.W.codeIn K cd15 "Reader.counted" = true) (k15 : PySem.W.keepIn K (.ref f15) = true)
    (a16 : PySem.W.findIn K (.ref C_Reader) "good" = some (some (.ref f16))) (fn16 : PySem.W.isFn K (.ref f16) = true) (l16 : K.lookup f16 = some ⟨oc16, od16, .func (PySem.W.fnOf "good" "Reader.good" (defArgs s_Reader_good) (defBody s_Reader_good) (defScope s_Reader_good) .none kV16 dc16 pm16 an16 cd16 ct16), sl16⟩) (c16 : PySem.W.codeIn K cd16 "Reader.good" = true) (k16 : PySem.W.keepIn K (.ref f16) = true)
    (a17 : PySem.W.findIn K (.ref C_Reader) "take" = some (some (.ref f17))) (fn17 : PySem.W.isFn K (.ref f17) = true) (l17 : K.lookup f17 = some ⟨oc17, od17, .func (PySem.W.fnOf "take" "Reader.take" (defArgs s_Reader_take) (defBody s_Reader_take) (defScope s_Reader_take) .none kV17 dc17 pm17 an17 cd17 ct17), sl17⟩) (c17 : PySem.W.codeIn K cd17 "Reader.take" = true) (k17 : PySem.W.keepIn K (.ref f17) = true)
    (a18 : PySem.W.nsIn K mainGlobals "_law_called" = some (some (.ref f18))) (l18 : K.lookup f18 = some ⟨oc18, od18, .func (PySem.W.fnOf "_law_called" "_law_called" (defArgs s__law_called) (defBody s__law_called) (defScope s__law_called) .none kV18 dc18 pm18 an18 cd18 ct18), sl18⟩) (c18 : PySem.W.codeIn K cd18 "_law_called" = true) (k18 : PySem.W.keepIn K (.ref f18) = true)
    (a19 : PySem.W.findIn K (.ref C_Reader) "tally" = some (some (.ref f19))) (fn19 : PySem.W.isFn K (.ref f19) = true) (l19 : K.lookup f19 = some ⟨oc19, od19, .func (PySem.W.fnOf "tally" "Reader.tally" (defArgs s_Reader_tally) (defBody s_Reader_tally) (defScope s_Reader_tally) .none kV19 dc19 pm19 an19 cd19 ct19), sl19⟩) (c19 : PySem.W.codeIn K cd19 "Reader.tally" = true) (k19 : PySem.W.keepIn K (.ref f19) = true)
    (a20 : PySem.W.findIn K (.ref C_Reader) "due" = some (some (.ref f20))) (fn20 : PySem.W.isFn K (.ref f20) = true) (l20 : K.lookup f20 = some ⟨oc20, od20, .func (PySem.W.fnOf "due" "Reader.due" (defArgs s_Reader_due) (defBody s_Reader_due) (defScope s_Reader_due) .none kV20 dc20 pm20 an20 cd20 ct20), sl20⟩) (c20 : PySem.W.codeIn K cd20 "Reader.due" = true) (k20 : PySem.W.keepIn K (.ref f20) = true)
    (a21 : PySem.W.findIn K (.ref C_Reader) "data" = some (some (.ref f21))) (fn21 : PySem.W.isFn K (.ref f21) = true) (l21 : K.lookup f21 = some ⟨oc21, od21, .func (PySem.W.fnOf "data" "Reader.data" (defArgs s_Reader_data) (defBody s_Reader_data) (defScope s_Reader_data) .none kV21 dc21 pm21 an21 cd21 ct21), sl21⟩) (c21 : PySem.W.codeIn K cd21 "Reader.data" = true) (k21 : PySem.W.keepIn K (.ref f21) = true)
    (a22 : PySem.W.nsIn K mainGlobals "_law_same" = some (some (.ref f22))) (l22 : K.lookup f22 = some ⟨oc22, od22, .func (PySem.W.fnOf "_law_same" "_law_same" (defArgs s__law_same) (defBody s__law_same) (defScope s__law_same) .none kV22 dc22 pm22 an22 cd22 ct22), sl22⟩) (c22 : PySem.W.codeIn K cd22 "_law_same" = true) (k22 : PySem.W.keepIn K (.ref f22) = true)
    (a23 : PySem.W.nsIn K mainGlobals "law" = some (some (.ref f23))) (l23 : K.lookup f23 = some ⟨oc23, od23, .func (PySem.W.fnOf "law" "law" (defArgs s_law) (defBody s_law) (defScope s_law) .none kV23 dc23 pm23 an23 cd23 ct23), sl23⟩) (c23 : PySem.W.codeIn K cd23 "law" = true) (k23 : PySem.W.keepIn K (.ref f23) = true)
    (z0 : PySem.W.nsIn K mainGlobals "all" = some none)    (z1 : PySem.W.nsIn K mainGlobals "bool" = some none)    (z2 : PySem.W.nsIn K mainGlobals "dict" = some none)    (z3 : PySem.W.nsIn K mainGlobals "int" = some none)    (z4 : PySem.W.nsIn K mainGlobals "isinstance" = some none)    (z5 : PySem.W.nsIn K mainGlobals "len" = some none)    (z6 : PySem.W.nsIn K mainGlobals "list" = some none)    (z7 : PySem.W.nsIn K mainGlobals "range" = some none)    (z8 : PySem.W.nsIn K mainGlobals "str" = some none)    (z9 : PySem.W.nsIn K mainGlobals "tuple" = some none)    (eE_DeedWrong : Err l.prog K mg "DeedWrong")    (eE_Wrong : Err l.prog K mg "Wrong")    (hH_DeedWrong : Hnd K mg "DeedWrong" [("DeedWrong", true), ("Wrong", false)])    (y0 : ∃ t, PySem.W.nsIn K mainGlobals "LAST" = some (some (.int 14 t)))    (y1 : ∃ t, PySem.W.nsIn K mainGlobals "MAKER" = some (some (.int 29 t))) :
    ∃ fd : FuncData, (∀ (s : Shared) (v : Value), BindsTo s fd ⟨[v], []⟩ [("script", v)]) ∧ ∀ base : Heap, K.In base → base.Ns mainGlobals mg → FnOk l.prog w K mg base CX0 10 fa fd ["script"] (spLaw 63 K) := by
  have e := hfa.symm.trans (PySem.W.mg_of X G a23)
  cases e
  obtain ⟨cl, ecl0⟩ : ∃ cl : CL, cl 0 = C_Reader := ⟨fun i => match i with | 0 => C_Reader | _ => C_Reader, rfl⟩
  have tk_Reader : ClsK K (cl 0) ns_Reader := by
    rw [ecl0]
    refine ⟨⟨kp_Reader, kd_Reader, ko_Reader, ks_Reader⟩, fun f hf => ?_, by decide⟩
    simp only [ns_Reader, List.mem_cons, List.not_mem_nil, or_false] at hf
    rcases hf with e | e | e | e | e | e | e | e <;> subst e <;> assumption
  have T : Bl l.prog K mg cl := ⟨tk_Reader, eE_DeedWrong, eE_Wrong, hH_DeedWrong, PySem.W.mg_none_of X G z0, PySem.W.mg_none_of X G z1, PySem.W.mg_none_of X G z2, PySem.W.mg_none_of X G z3, PySem.W.mg_none_of X G z4, PySem.W.mg_none_of X G z5, PySem.W.mg_none_of X G z6, PySem.W.mg_none_of X G z7, PySem.W.mg_none_of X G z8, PySem.W.mg_none_of X G z9, (by obtain ⟨t, e⟩ := y0; exact ⟨t, PySem.W.mg_of X G e⟩), (by obtain ⟨t, e⟩ := y1; exact ⟨t, PySem.W.mg_of X G e⟩)⟩
  have m1 := PySem.W.mg_of X G a1
  have F1 := fun_mk (st := s__law_draws) l1 c1 k1
  have b1 := F1.binds (ps := ["script"]) fun _ _ _ _ _ _ us hl => match us, hl with | [_], _ => rfl
  have m2 := PySem.W.mg_of X G a2
  have F2 := fun_mk (st := s__law_draw) l2 c2 k2
  have b2 := F2.binds (ps := ["draws", "limit"]) fun _ _ _ _ _ _ us hl => match us, hl with | [_, _], _ => rfl
  have m3 := PySem.W.mg_of X G a3
  have F3 := fun_mk (st := s__law_new_reader) l3 c3 k3
  have b3 := F3.binds (ps := ["key", "most", "limit"]) fun _ _ _ _ _ _ us hl => match us, hl with | [_, _, _], _ => rfl
  have F4 := fun_mk (st := s_Reader___init__) l4 c4 k4
  have b4 := F4.binds (ps := ["self", "key", "most", "limit"]) fun _ _ _ _ _ _ us hl => match us, hl with | [_, _, _, _], _ => rfl
  have m5 := PySem.W.mg_of X G a5
  have F5 := fun_mk (st := s__law_check) l5 c5 k5
  have b5 := F5.binds (ps := ["octets"]) fun _ _ _ _ _ _ us hl => match us, hl with | [_], _ => rfl
  have m6 := PySem.W.mg_of X G a6
  have F6 := fun_mk (st := s__law_guarded) l6 c6 k6
  have b6 := F6.binds (ps := ["data", "counter", "key"]) fun _ _ _ _ _ _ us hl => match us, hl with | [_, _, _], _ => rfl
  have m7 := PySem.W.mg_of X G a7
  have F7 := fun_mk (st := s__law_reader_on) l7 c7 k7
  have b7 := F7.binds (ps := ["own", "now"]) fun _ _ _ _ _ _ us hl => match us, hl with | [_, _], _ => rfl
  have m8 := PySem.W.mg_of X G a8
  have F8 := fun_mk (st := s__law_reader_takes) l8 c8 k8
  have b8 := F8.binds (ps := ["own", "octets", "now"]) fun _ _ _ _ _ _ us hl => match us, hl with | [_, _, _], _ => rfl
  have F9 := fun_mk (st := s_Reader_go_on) l9 c9 k9
  have b9 := F9.binds (ps := ["self", "now"]) fun _ _ _ _ _ _ us hl => match us, hl with | [_, _], _ => rfl
  have m10 := PySem.W.mg_of X G a10
  have F10 := fun_mk (st := s_is_number) l10 c10 k10
  have b10 := F10.binds (ps := ["thing", "low", "high"]) fun _ _ _ _ _ _ us hl => match us, hl with | [_, _, _], _ => rfl
  have m11 := PySem.W.mg_of X G a11
  have F11 := fun_mk (st := s_is_octets) l11 c11 k11
  have b11 := F11.binds (ps := ["thing", "most"]) fun _ _ _ _ _ _ us hl => match us, hl with | [_, _], _ => rfl
  have m12 := PySem.W.mg_of X G a12
  have F12 := fun_mk (st := s_check_of) l12 c12 k12
  have b12 := F12.binds (ps := ["octets"]) fun _ _ _ _ _ _ us hl => match us, hl with | [_], _ => rfl
  have m13 := PySem.W.mg_of X G a13
  have F13 := fun_mk (st := s_guarded) l13 c13 k13
  have b13 := F13.binds (ps := ["data", "counter", "key"]) fun _ _ _ _ _ _ us hl => match us, hl with | [_, _, _], _ => rfl
  have F14 := fun_mk (st := s_Reader_is_right) l14 c14 k14
  have b14 := F14.binds (ps := ["self", "octets"]) fun _ _ _ _ _ _ us hl => match us, hl with | [_, _], _ => rfl
  have F15 := fun_mk (st := s_Reader_counted) l15 c15 k15
  have b15 := F15.binds (ps := ["self", "word", "told"]) fun _ _ _ _ _ _ us hl => match us, hl with | [_, _, _], _ => rfl
  have F16 := fun_mk (st := s_Reader_good) l16 c16 k16
  have b16 := F16.binds (ps := ["self", "octets", "word", "told"]) fun _ _ _ _ _ _ us hl => match us, hl with | [_, _, _, _], _ => rfl
  have F17 := fun_mk (st := s_Reader_take) l17 c17 k17
  have b17 := F17.binds (ps := ["self", "octets", "now"]) fun _ _ _ _ _ _ us hl => match us, hl with | [_, _, _], _ => rfl
  have m18 := PySem.W.mg_of X G a18
  have F18 := fun_mk (st := s__law_called) l18 c18 k18
  have b18 := F18.binds (ps := ["reader", "word", "octets", "now"]) fun _ _ _ _ _ _ us hl => match us, hl with | [_, _, _, _], _ => rfl
  have F19 := fun_mk (st := s_Reader_tally) l19 c19 k19
  have b19 := F19.binds (ps := ["self"]) fun _ _ _ _ _ _ us hl => match us, hl with | [_], _ => rfl
  have F20 := fun_mk (st := s_Reader_due) l20 c20 k20
  have b20 := F20.binds (ps := ["self"]) fun _ _ _ _ _ _ us hl => match us, hl with | [_], _ => rfl
  have F21 := fun_mk (st := s_Reader_data) l21 c21 k21
  have b21 := F21.binds (ps := ["self"]) fun _ _ _ _ _ _ us hl => match us, hl with | [_], _ => rfl
  have m22 := PySem.W.mg_of X G a22
  have F22 := fun_mk (st := s__law_same) l22 c22 k22
  have b22 := F22.binds (ps := ["x", "due"]) fun _ _ _ _ _ _ us hl => match us, hl with | [_, _], _ => rfl
  have m23 := PySem.W.mg_of X G a23
  have F23 := fun_mk (st := s_law) l23 c23 k23
  refine ⟨PySem.W.fnOf "law" "law" (defArgs s_law) (defBody s_law) (defScope s_law) .none kV23 dc23 pm23 an23 cd23 ct23, fun s v => .of_eq rfl, fun base _ _ => law_imp ?_⟩
  have G1 := known_mk (P := l.prog) (w := w) (base := base) F1 (ok__law_draws F1 T) m1 b1
  have G2 := known_mk (P := l.prog) (w := w) (base := base) F2 (ok__law_draw F2 T) m2 b2
  have G3 := known_mk (P := l.prog) (w := w) (base := base) F3 (ok__law_new_reader F3 T) m3 b3
  have G4 : KnownI l.prog w K mg base 1 "Reader" (cl 0) ["self", "key", "most", "limit"] (sp_Reader___init__ cl) := ⟨_, _, (ok_Reader___init__ F4 T), by rw [ecl0]; exact PySem.W.mg_of X G kC_Reader, by rw [ecl0]; exact ⟨km_Reader, a4, fn4, kk_Reader⟩, b4⟩
  have G5 := known_mk (P := l.prog) (w := w) (base := base) F5 (ok__law_check F5 T) m5 b5
  have G6 := known_mk (P := l.prog) (w := w) (base := base) F6 (ok__law_guarded F6 T G5) m6 b6
  have G7 := known_mk (P := l.prog) (w := w) (base := base) F7 (ok__law_reader_on F7 T) m7 b7
  have G8 := known_mk (P := l.prog) (w := w) (base := base) F8 (ok__law_reader_takes F8 T G7 G6) m8 b8
  have G9 : KnownMX l.prog w K mg base 4 (cl 0) "go_on" ["self", "now"] (sp_Reader_go_on cl) := ⟨_, _, (ok_Reader_go_on F9 T), by rw [ecl0]; exact ⟨a9, fn9, k9⟩, b9⟩
  have G10 := known_mk (P := l.prog) (w := w) (base := base) F10 (ok_is_number F10 T) m10 b10
  have G11 := known_mk (P := l.prog) (w := w) (base := base) F11 (ok_is_octets F11 T G10) m11 b11
  have G12 := known_mk (P := l.prog) (w := w) (base := base) F12 (ok_check_of F12 T) m12 b12
  have G13 := knownX_mk (P := l.prog) (w := w) (base := base) F13 (ok_guarded F13 T G11 G10 G12) m13 b13
  have G14 : KnownM l.prog w K mg base 5 (cl 0) "is_right" ["self", "octets"] (sp_Reader_is_right cl) := ⟨_, _, (ok_Reader_is_right F14 T G11 G13), by rw [ecl0]; exact ⟨a14, fn14, k14⟩, b14⟩
  have G15 : KnownM l.prog w K mg base 1 (cl 0) "counted" ["self", "word", "told"] (sp_Reader_counted cl) := ⟨_, _, (ok_Reader_counted F15 T), by rw [ecl0]; exact ⟨a15, fn15, k15⟩, b15⟩
  have G16 : KnownM l.prog w K mg base 2 (cl 0) "good" ["self", "octets", "word", "told"] (sp_Reader_good cl) := ⟨_, _, (ok_Reader_good F16 T G15), by rw [ecl0]; exact ⟨a16, fn16, k16⟩, b16⟩
  have G17 : KnownMX l.prog w K mg base 6 (cl 0) "take" ["self", "octets", "now"] (sp_Reader_take cl) := ⟨_, _, (ok_Reader_take F17 T G9 G14 G15 G16), by rw [ecl0]; exact ⟨a17, fn17, k17⟩, b17⟩
  have G18 := known_mk (P := l.prog) (w := w) (base := base) F18 (ok__law_called F18 T G17 G9) m18 b18
  have G19 : KnownM l.prog w K mg base 1 (cl 0) "tally" ["self"] (sp_Reader_tally cl) := ⟨_, _, (ok_Reader_tally F19 T), by rw [ecl0]; exact ⟨a19, fn19, k19⟩, b19⟩
  have G20 : KnownM l.prog w K mg base 1 (cl 0) "due" ["self"] (sp_Reader_due cl) := ⟨_, _, (ok_Reader_due F20 T), by rw [ecl0]; exact ⟨a20, fn20, k20⟩, b20⟩
  have G21 : KnownM l.prog w K mg base 1 (cl 0) "data" ["self"] (sp_Reader_data cl) := ⟨_, _, (ok_Reader_data F21 T), by rw [ecl0]; exact ⟨a21, fn21, k21⟩, b21⟩
  have G22 := known_mk (P := l.prog) (w := w) (base := base) F22 (ok__law_same F22 T m22 b22 8) m22 b22
  exact ok_law F23 T G1 G2 G3 G4 G6 G8 G18 G7 G19 G20 G21 G22
end K81
open PySem PySem.W PyProof.Rows
set_option maxHeartbeats 0 in
theorem PySem.Challenge.cw_axlewire_k81_whole_readers_of_guarded_me_holds : PySem.Challenge.rw_axlewire_k81_whole_readers_of_guarded_me.Holds := by
  w_on; o_law; k_head; (case hw => w_witness2)
  k_fill
  refine L2.walk_of (l := PySem.Challenge.rw_axlewire_k81_whole_readers_of_guarded_me) (n := 63) (k := 10) (x := "script") (CX := fun _ => L2.CX0) (sp := fun w => AX.spLaw 63 _) rfl (by decide) rfl ⟨rfl, by decide, by decide⟩ (fun w h Y => PySem.W.kIn_of Y) ?F (fun _ _ a ns hl _ hS => ⟨a, ns, rfl, hS, hl, fun _ => rfl⟩) (fun _ _ _ _ _ h => h)
  case F =>
    intro w mg fa h KX G hmg
    refine' K81.all_mk KX G hmg ?kC_Reader ?kp_Reader ?kd_Reader ?ko_Reader ?ks_Reader ?km_Reader ?kk_Reader ?kf_Reader_0 ?kf_Reader_1 ?kf_Reader_2 ?kf_Reader_3 ?kf_Reader_4 ?kf_Reader_5 ?kf_Reader_6 ?kf_Reader_7 ?a1 ?l1 ?c1 ?k1 ?a2 ?l2 ?c2 ?k2 ?a3 ?l3 ?c3 ?k3 ?a4 ?fn4 ?l4 ?c4 ?k4 ?a5 ?l5 ?c5 ?k5 ?a6 ?l6 ?c6 ?k6 ?a7 ?l7 ?c7 ?k7 ?a8 ?l8 ?c8 ?k8 ?a9 ?fn9 ?l9 ?c9 ?k9 ?a10 ?l10 ?c10 ?k10 ?a11 ?l11 ?c11 ?k11 ?a12 ?l12 ?c12 ?k12 ?a13 ?l13 ?c13 ?k13 ?a14 ?fn14 ?l14 ?c14 ?k14 ?a15 ?fn15 ?l15 ?c15 ?k15 ?a16 ?fn16 ?l16 ?c16 ?k16 ?a17 ?fn17 ?l17 ?c17 ?k17 ?a18 ?l18 ?c18 ?k18 ?a19 ?fn19 ?l19 ?c19 ?k19 ?a20 ?fn20 ?l20 ?c20 ?k20 ?a21 ?fn21 ?l21 ?c21 ?k21 ?a22 ?l22 ?c22 ?k22 ?a23 ?l23 ?c23 ?k23 ?z0 ?z1 ?z2 ?z3 ?z4 ?z5 ?z6 ?z7 ?z8 ?z9 ?eE_DeedWrong ?eE_Wrong ?hH_DeedWrong ?y0 ?y1
    (case kC_Reader => k_is); (case kp_Reader => k_is); (case kd_Reader => k_is); (case ko_Reader => k_is); (case ks_Reader => k_is); (case km_Reader => k_is); (case kk_Reader => k_is); (case kf_Reader_0 => k_is); (case kf_Reader_1 => k_is); (case kf_Reader_2 => k_is); (case kf_Reader_3 => k_is); (case kf_Reader_4 => k_is); (case kf_Reader_5 => k_is); (case kf_Reader_6 => k_is); (case kf_Reader_7 => k_is); (case a1 => k_is); (case l1 => k_is); (case c1 => k_is); (case k1 => k_is); (case a2 => k_is); (case l2 => k_is); (case c2 => k_is); (case k2 => k_is); (case a3 => k_is); (case l3 => k_is); (case c3 => k_is); (case k3 => k_is); (case a4 => k_is); (case fn4 => k_is); (case l4 => k_is); (case c4 => k_is); (case k4 => k_is); (case a5 => k_is); (case l5 => k_is); (case c5 => k_is); (case k5 => k_is); (case a6 => k_is); (case l6 => k_is); (case c6 => k_is); (case k6 => k_is); (case a7 => k_is); (case l7 => k_is); (case c7 => k_is); (case k7 => k_is); (case a8 => k_is); (case l8 => k_is); (case c8 => k_is); (case k8 => k_is); (case a9 => k_is); (case fn9 => k_is); (case l9 => k_is); (case c9 => k_is); (case k9 => k_is); (case a10 => k_is); (case l10 => k_is); (case c10 => k_is); (case k10 => k_is); (case a11 => k_is); (case l11 => k_is); (case c11 => k_is); (case k11 => k_is); (case a12 => k_is); (case l12 => k_is); (case c12 => k_is); (case k12 => k_is); (case a13 => k_is); (case l13 => k_is); (case c13 => k_is); (case k13 => k_is); (case a14 => k_is); (case fn14 => k_is); (case l14 => k_is); (case c14 => k_is); (case k14 => k_is); (case a15 => k_is); (case fn15 => k_is); (case l15 => k_is); (case c15 => k_is); (case k15 => k_is); (case a16 => k_is); (case fn16 => k_is); (case l16 => k_is); (case c16 => k_is); (case k16 => k_is); (case a17 => k_is); (case fn17 => k_is); (case l17 => k_is); (case c17 => k_is); (case k17 => k_is); (case a18 => k_is); (case l18 => k_is); (case c18 => k_is); (case k18 => k_is); (case a19 => k_is); (case fn19 => k_is); (case l19 => k_is); (case c19 => k_is); (case k19 => k_is); (case a20 => k_is); (case fn20 => k_is); (case l20 => k_is); (case c20 => k_is); (case k20 => k_is); (case a21 => k_is); (case fn21 => k_is); (case l21 => k_is); (case c21 => k_is); (case k21 => k_is); (case a22 => k_is); (case l22 => k_is); (case c22 => k_is); (case k22 => k_is); (case a23 => k_is); (case l23 => k_is); (case c23 => k_is); (case k23 => k_is); (case z0 => k_is); (case z1 => k_is); (case z2 => k_is); (case z3 => k_is); (case z4 => k_is); (case z5 => k_is); (case z6 => k_is); (case z7 => k_is); (case z8 => k_is); (case z9 => k_is); (case y0 => apply Exists.intro; k_is); (case y1 => apply Exists.intro; k_is)
    (case eE_DeedWrong =>
      refine' AX.err_mk KX G ?gB ?iB ?lB ?cB ?tB ?eB ?oB ?vB ?fB ?nB ?sB ?yB ?pB ?uB ?gC ?lC ?sa ?n1 ?n2 ?s0 ?vE ?u0 ?oth ?xC ?yC ?kC ?iC ?tI ?sC ?uI ?lI ?cI ?eI ?oI ?vI ?fI ?nI ?ga ?gg ?hdC
      (case gB => first | k_is | ks_is | rfl | decide +kernel)
      (case iB => first | k_is | ks_is | rfl | decide +kernel)
      (case lB => first | k_is | ks_is | rfl | decide +kernel)
      (case cB => first | k_is | ks_is | rfl | decide +kernel)
      (case tB => first | k_is | ks_is | rfl | decide +kernel)
      (case eB => first | k_is | ks_is | rfl | decide +kernel)
      (case oB => first | k_is | ks_is | rfl | decide +kernel)
      (case vB => first | k_is | ks_is | rfl | decide +kernel)
      (case fB => first | k_is | ks_is | rfl | decide +kernel)
      (case nB => first | k_is | ks_is | rfl | decide +kernel)
      (case sB => first | k_is | ks_is | rfl | decide +kernel)
      (case yB => first | k_is | ks_is | rfl | decide +kernel)
      (case pB => first | k_is | ks_is | rfl | decide +kernel)
      (case uB => first | k_is | ks_is | rfl | decide +kernel)
      (case gC => first | k_is | ks_is | rfl | decide +kernel)
      (case lC => first | k_is | ks_is | rfl | decide +kernel)
      (case sa => first | k_is | ks_is | rfl | decide +kernel)
      (case n1 => first | k_is | ks_is | rfl | decide +kernel)
      (case n2 => first | k_is | ks_is | rfl | decide +kernel)
      (case s0 => first | k_is | ks_is | rfl | decide +kernel)
      (case vE => first | k_is | ks_is | rfl | decide +kernel)
      (case u0 => first | k_is | ks_is | rfl | decide +kernel)
      (case oth => first | k_is | ks_is | rfl | decide +kernel)
      (case xC => first | k_is | ks_is | rfl | decide +kernel)
      (case yC => first | k_is | ks_is | rfl | decide +kernel)
      (case kC => first | k_is | ks_is | rfl | decide +kernel)
      (case iC => first | k_is | ks_is | rfl | decide +kernel)
      (case tI => first | k_is | ks_is | rfl | decide +kernel)
      (case sC => first | k_is | ks_is | rfl | decide +kernel)
      (case uI => first | k_is | ks_is | rfl | decide +kernel)
      (case lI => first | k_is | ks_is | rfl | decide +kernel)
      (case cI => first | k_is | ks_is | rfl | decide +kernel)
      (case eI => first | k_is | ks_is | rfl | decide +kernel)
      (case oI => first | k_is | ks_is | rfl | decide +kernel)
      (case vI => first | k_is | ks_is | rfl | decide +kernel)
      (case fI => first | k_is | ks_is | rfl | decide +kernel)
      (case nI => first | k_is | ks_is | rfl | decide +kernel)
      (case ga => first | k_is | ks_is | rfl | decide +kernel)
      (case gg => first | k_is | ks_is | rfl | decide +kernel)
      (case hdC => first | k_is | ks_is | rfl | decide +kernel))
    (case eE_Wrong =>
      refine' AX.err_mk KX G ?gB ?iB ?lB ?cB ?tB ?eB ?oB ?vB ?fB ?nB ?sB ?yB ?pB ?uB ?gC ?lC ?sa ?n1 ?n2 ?s0 ?vE ?u0 ?oth ?xC ?yC ?kC ?iC ?tI ?sC ?uI ?lI ?cI ?eI ?oI ?vI ?fI ?nI ?ga ?gg ?hdC
      (case gB => first | k_is | ks_is | rfl | decide +kernel)
      (case iB => first | k_is | ks_is | rfl | decide +kernel)
      (case lB => first | k_is | ks_is | rfl | decide +kernel)
      (case cB => first | k_is | ks_is | rfl | decide +kernel)
      (case tB => first | k_is | ks_is | rfl | decide +kernel)
      (case eB => first | k_is | ks_is | rfl | decide +kernel)
      (case oB => first | k_is | ks_is | rfl | decide +kernel)
      (case vB => first | k_is | ks_is | rfl | decide +kernel)
      (case fB => first | k_is | ks_is | rfl | decide +kernel)
      (case nB => first | k_is | ks_is | rfl | decide +kernel)
      (case sB => first | k_is | ks_is | rfl | decide +kernel)
      (case yB => first | k_is | ks_is | rfl | decide +kernel)
      (case pB => first | k_is | ks_is | rfl | decide +kernel)
      (case uB => first | k_is | ks_is | rfl | decide +kernel)
      (case gC => first | k_is | ks_is | rfl | decide +kernel)
      (case lC => first | k_is | ks_is | rfl | decide +kernel)
      (case sa => first | k_is | ks_is | rfl | decide +kernel)
      (case n1 => first | k_is | ks_is | rfl | decide +kernel)
      (case n2 => first | k_is | ks_is | rfl | decide +kernel)
      (case s0 => first | k_is | ks_is | rfl | decide +kernel)
      (case vE => first | k_is | ks_is | rfl | decide +kernel)
      (case u0 => first | k_is | ks_is | rfl | decide +kernel)
      (case oth => first | k_is | ks_is | rfl | decide +kernel)
      (case xC => first | k_is | ks_is | rfl | decide +kernel)
      (case yC => first | k_is | ks_is | rfl | decide +kernel)
      (case kC => first | k_is | ks_is | rfl | decide +kernel)
      (case iC => first | k_is | ks_is | rfl | decide +kernel)
      (case tI => first | k_is | ks_is | rfl | decide +kernel)
      (case sC => first | k_is | ks_is | rfl | decide +kernel)
      (case uI => first | k_is | ks_is | rfl | decide +kernel)
      (case lI => first | k_is | ks_is | rfl | decide +kernel)
      (case cI => first | k_is | ks_is | rfl | decide +kernel)
      (case eI => first | k_is | ks_is | rfl | decide +kernel)
      (case oI => first | k_is | ks_is | rfl | decide +kernel)
      (case vI => first | k_is | ks_is | rfl | decide +kernel)
      (case fI => first | k_is | ks_is | rfl | decide +kernel)
      (case nI => first | k_is | ks_is | rfl | decide +kernel)
      (case ga => first | k_is | ks_is | rfl | decide +kernel)
      (case gg => first | k_is | ks_is | rfl | decide +kernel)
      (case hdC => first | k_is | ks_is | rfl | decide +kernel))
    (case hH_DeedWrong =>
      refine' AX.hnd_more KX G ?r_DeedWrong0 ?g_DeedWrong0 ?g2_DeedWrong0 ?h1_DeedWrong0 ?h2_DeedWrong0 ?h3_DeedWrong0 ?h5_DeedWrong0 ?h6_DeedWrong0 ?h7_DeedWrong0 ?h4_DeedWrong0
      (case g_DeedWrong0 => k_is); (case g2_DeedWrong0 => k_is); (case h1_DeedWrong0 => k_is); (case h2_DeedWrong0 => k_is); (case h3_DeedWrong0 => k_is); (case h5_DeedWrong0 => k_is); (case h6_DeedWrong0 => k_is); (case h7_DeedWrong0 => k_is); (case h4_DeedWrong0 => k_is)
      refine' AX.hnd_more KX G ?r_DeedWrong1 ?g_DeedWrong1 ?g2_DeedWrong1 ?h1_DeedWrong1 ?h2_DeedWrong1 ?h3_DeedWrong1 ?h5_DeedWrong1 ?h6_DeedWrong1 ?h7_DeedWrong1 ?h4_DeedWrong1
      (case g_DeedWrong1 => k_is); (case g2_DeedWrong1 => k_is); (case h1_DeedWrong1 => k_is); (case h2_DeedWrong1 => k_is); (case h3_DeedWrong1 => k_is); (case h5_DeedWrong1 => k_is); (case h6_DeedWrong1 => k_is); (case h7_DeedWrong1 => k_is); (case h4_DeedWrong1 => k_is)
      refine' AX.hnd_one KX G ?g_DeedWrong
      (case g_DeedWrong => k_is))
