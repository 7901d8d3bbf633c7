import PyProof.Rows.All
import Wide.All
import OpenK.AllK
import Wide.FinOn
import HandS.ForMost
import HandS.Exc
import HandS.ExcInit
import HandS.ExcField
import HandS.ExcIs
import HandS.Walk
import HandS.Evl
import HandS.Wide
import HandS.Zip
import HandS.StrMore
import HandS.IsInst
import HandS.TupAny
import HandS.WordsExc
import HandS.TryOnly
import HandS.ExcOwn
import HandS.SortRule
import HandS.DictTup
import KE.KDictSum
import KE.KDictCopyH
import KE.KDictKeyed
import HandS.TupLen
import KE.KeyNested
import HandS.Ends
import KE.GoesNew
import KE.GoesMore
import KE.GoesEnum
import HandS.Replace
import HandS.RaiseMore
import HandS.Deep
import HandS.SortInts
import HandS.WordsDict
import HandS.Codes
import HandS.Style
import HandS.TupLe
import KE.KRevSl
import PySem.Challenge.RW_twostoreys_k57_deep_detours_whole
set_option Elab.async false
set_option linter.all false
set_option maxRecDepth 100000
set_option maxHeartbeats 4000000
/-! Sym0: data without a heap. F is the part of the heap that no longer changes; what a def makes is laid into it. -/
namespace Sym
open PySem L2 Evl

/-- data -/
inductive D where
  | non | bl (b : Bool) | int (i : Int) | str (x : Str)
  | lst (xs : List D) | tup (xs : List D)
  | ins (C : Addr) (fs : List Str) (xs : List D)
  | op (v : V)
  | exn (a dx : Addr) (fs : List Str) (xs : List D)

mutual
/-- v stands for d in F -/
def Rp (K : PySem.W.Frag) (F : Hp) : D → V → Prop
  | .non, v => v = .non
  | .bl b, v => v = .bl b
  | .int i, v => v = .int i
  | .str x, v => v = .str x
  | .lst xs, v => ∃ a vs, v = .ref a ∧ SqL K F a vs ∧ Rps K F xs vs
  | .tup xs, v => ∃ a vs, v = .ref a ∧ SqT K F a vs ∧ Rps K F xs vs
  | .ins C fs xs, v => ∃ a dx vs, v = .ref a ∧ F a = some (.ins C dx (fs.zip vs)) ∧ F dx = some (.own a) ∧ fs.length = vs.length ∧ Rps K F xs vs
  | .op u, v => v = u
  | .exn a dx fs xs, v => v = .ref a ∧ ∃ vs, F dx = some (.xd (fs.zip vs)) ∧ fs.length = vs.length ∧ Rps K F xs vs
def Rps (K : PySem.W.Frag) (F : Hp) : List D → List V → Prop
  | [], vs => vs = []
  | d :: ds, vs => ∃ v r, vs = v :: r ∧ Rp K F d v ∧ Rps K F ds r
end

section
variable {K : PySem.W.Frag} {F F' : Hp}
mutual
theorem Rp.mono (e : Ex F F') : ∀ (d : D) (v : V), Rp K F d v → Rp K F' d v
  | .non, _, h => h
  | .bl _, _, h => h
  | .int _, _, h => h
  | .str _, _, h => h
  | .lst xs, _, h => by
    obtain ⟨a, vs, h1, h2, h3⟩ := h
    exact ⟨a, vs, h1, ex_l e h2, Rps.mono e xs vs h3⟩
  | .tup xs, _, h => by
    obtain ⟨a, vs, h1, h2, h3⟩ := h
    exact ⟨a, vs, h1, ex_t e h2, Rps.mono e xs vs h3⟩
  | .ins C fs xs, _, h => by
    obtain ⟨a, dx, vs, h1, h2, h3, h4, h5⟩ := h
    exact ⟨a, dx, vs, h1, e _ _ h2, e _ _ h3, h4, Rps.mono e xs vs h5⟩
  | .op _, _, h => h
  | .exn a dx fs xs, _, h => by
    obtain ⟨h1, vs, h2, h3, h4⟩ := h
    exact ⟨h1, vs, e _ _ h2, h3, Rps.mono e xs vs h4⟩
theorem Rps.mono (e : Ex F F') : ∀ (ds : List D) (vs : List V), Rps K F ds vs → Rps K F' ds vs
  | [], _, h => h
  | d :: ds, _, h => by
    obtain ⟨v, r, h1, h2, h3⟩ := h
    exact ⟨v, r, h1, Rp.mono e d v h2, Rps.mono e ds r h3⟩
end
theorem Rps.nil : Rps K F [] [] := rfl
theorem Rps.cons {d : D} {ds : List D} {v : V} {vs : List V} (h : Rp K F d v) (t : Rps K F ds vs) : Rps K F (d :: ds) (v :: vs) := ⟨v, vs, rfl, h, t⟩
theorem Rps.uncons {d : D} {ds : List D} {v : V} {vs : List V} (h : Rps K F (d :: ds) (v :: vs)) : Rp K F d v ∧ Rps K F ds vs := by
  obtain ⟨v', r, e, h1, h2⟩ := h
  cases e
  exact ⟨h1, h2⟩
theorem Rps.length : ∀ {ds : List D} {vs : List V}, Rps K F ds vs → ds.length = vs.length
  | [], vs, h => by
    have e : vs = [] := h
    rw [e] <;> rfl
  | d :: ds, vs, h => by
    obtain ⟨v, r, e, _, h2⟩ := h
    rw [e]
    show ds.length + 1 = r.length + 1
    rw [Rps.length h2]
theorem Rps.get : ∀ {ds : List D} {vs : List V} {i : Nat} {d : D}, Rps K F ds vs → ds[i]? = some d → ∃ v, vs[i]? = some v ∧ Rp K F d v
  | [], _, _, _, _, e => by simp at e
  | d :: ds, vs, 0, d', h, e => by
    obtain ⟨v, r, rfl, h1, _⟩ := h
    have e' : d = d' := by simpa using e
    subst e'
    exact ⟨v, rfl, h1⟩
  | d :: ds, vs, i + 1, d', h, e => by
    obtain ⟨v, r, rfl, _, h2⟩ := h
    obtain ⟨w, h3, h4⟩ := Rps.get (i := i) h2 (by simpa using e)
    exact ⟨w, by simpa using h3, h4⟩
theorem Rps.get' {ds : List D} {vs : List V} {i : Nat} {v : V} (h : Rps K F ds vs) (e : vs[i]? = some v) : ∃ d, ds[i]? = some d ∧ Rp K F d v := by
  have hl : i < vs.length := (List.getElem?_eq_some_iff.mp e).1
  have hl' : i < ds.length := by rw [h.length]; exact hl
  obtain ⟨w, h1, h2⟩ := h.get (i := i) (d := ds[i]) (by simp [hl'])
  rw [e] at h1
  cases h1
  exact ⟨ds[i], by simp [hl'], h2⟩
theorem Rps.append : ∀ {ds es : List D} {vs ws : List V}, Rps K F ds vs → Rps K F es ws → Rps K F (ds ++ es) (vs ++ ws)
  | [], _, vs, _, h, t => by
    have e : vs = [] := h
    rw [e]
    exact t
  | d :: ds, es, vs, ws, h, t => by
    obtain ⟨v, r, rfl, h1, h2⟩ := h
    exact ⟨v, r ++ ws, rfl, h1, Rps.append h2 t⟩
theorem Rps.take : ∀ {ds : List D} {vs : List V} (n : Nat), Rps K F ds vs → Rps K F (ds.take n) (vs.take n)
  | _, _, 0, _ => by simp only [List.take_zero]; exact rfl
  | [], vs, n + 1, h => by
    have e : vs = [] := h
    rw [e]
    exact rfl
  | d :: ds, vs, n + 1, h => by
    obtain ⟨v, r, rfl, h1, h2⟩ := h
    exact ⟨v, r.take n, rfl, h1, Rps.take n h2⟩
theorem Rps.drop : ∀ {ds : List D} {vs : List V} (n : Nat), Rps K F ds vs → Rps K F (ds.drop n) (vs.drop n)
  | _, _, 0, h => h
  | [], vs, n + 1, h => by
    have e : vs = [] := h
    rw [e]
    exact rfl
  | d :: ds, vs, n + 1, h => by
    obtain ⟨v, r, rfl, h1, h2⟩ := h
    exact Rps.drop n h2
theorem Rps.set {d : D} {v : V} (h : Rp K F d v) : ∀ {ds : List D} {vs : List V} (i : Nat), Rps K F ds vs → Rps K F (ds.set i d) (vs.set i v)
  | [], vs, i, t => by
    have e : vs = [] := t
    rw [e]
    exact rfl
  | _ :: ds, vs, 0, t => by
    obtain ⟨w, r, rfl, _, h2⟩ := t
    exact ⟨v, r, rfl, h, h2⟩
  | x :: ds, vs, i + 1, t => by
    obtain ⟨w, r, rfl, h1, h2⟩ := t
    exact ⟨w, r.set i v, rfl, h1, Rps.set h i h2⟩
theorem Rps.snoc {ds : List D} {vs : List V} {d : D} {v : V} (h : Rps K F ds vs) (t : Rp K F d v) : Rps K F (ds ++ [d]) (vs ++ [v]) := h.append (.cons t .nil)
theorem Rps.unsnoc {ds : List D} {vs : List V} (h : Rps K F ds vs) : Rps K F ds.dropLast vs.dropLast := by
  rw [List.dropLast_eq_take, List.dropLast_eq_take, h.length]
  exact h.take _
end

/-! ### flat lists of one kind -/
abbrev dInts (ns : List Int) : D := .lst (ns.map .int)
abbrev dStrs (zs : List Str) : D := .lst (zs.map .str)
abbrev dTints (ns : List Int) : D := .tup (ns.map .int)
theorem rps_ints {K : PySem.W.Frag} {F : Hp} : ∀ {ns : List Int} {vs : List V}, Rps K F (ns.map D.int) vs → vs = ns.map V.int
  | [], _, h => h
  | n :: ns, _, h => by
    obtain ⟨v, r, rfl, h1, h2⟩ := h
    have e : v = .int n := h1
    rw [e, rps_ints h2] <;> rfl
theorem rps_strs {K : PySem.W.Frag} {F : Hp} : ∀ {ns : List Str} {vs : List V}, Rps K F (ns.map D.str) vs → vs = ns.map V.str
  | [], _, h => h
  | n :: ns, _, h => by
    obtain ⟨v, r, rfl, h1, h2⟩ := h
    have e : v = .str n := h1
    rw [e, rps_strs h2] <;> rfl
theorem rps_bls {K : PySem.W.Frag} {F : Hp} : ∀ {ns : List Bool} {vs : List V}, Rps K F (ns.map D.bl) vs → vs = ns.map V.bl
  | [], _, h => h
  | n :: ns, _, h => by
    obtain ⟨v, r, rfl, h1, h2⟩ := h
    have e : v = .bl n := h1
    rw [e, rps_bls h2] <;> rfl

/-! ### plain data -/
mutual
def toPy : D → PyData
  | .non => .none
  | .bl b => .bool b
  | .int i => .int i
  | .str x => .str x
  | .lst xs => .list (toPys xs)
  | .tup xs => .tuple (toPys xs)
  | .ins _ _ _ => .none
  | .op _ => .none
  | .exn _ _ _ _ => .none
def toPys : List D → List PyData
  | [] => []
  | x :: xs => toPy x :: toPys xs
end
mutual
def plain : D → Bool
  | .ins _ _ _ => false
  | .op _ => false
  | .exn _ _ _ _ => false
  | .lst xs => plains xs
  | .tup xs => plains xs
  | _ => true
def plains : List D → Bool
  | [] => true
  | x :: xs => plain x && plains xs
end
section
variable {K : PySem.W.Frag} {F : Hp}
mutual
theorem Rp.dp : ∀ (d : D) (v : V), plain d = true → Rp K F d v → Dp K F v (toPy d)
  | .non, v, _, h => by
    have e : v = .non := h
    rw [e]; exact .non
  | .bl b, v, _, h => by
    have e : v = .bl b := h
    rw [e]; exact .bl b
  | .int i, v, _, h => by
    have e : v = .int i := h
    rw [e]; exact .int i
  | .str x, v, _, h => by
    have e : v = .str x := h
    rw [e]; exact .str x
  | .lst xs, v, p, h => by
    obtain ⟨a, vs, e, h2, h3⟩ := h
    rw [e]
    exact .lst h2 (Rps.dp xs vs p h3)
  | .tup xs, v, p, h => by
    obtain ⟨a, vs, e, h2, h3⟩ := h
    rw [e]
    exact .tup h2 (Rps.dp xs vs p h3)
  | .ins _ _ _, _, p, _ => by cases p
  | .op _, _, p, _ => by cases p
  | .exn _ _ _ _, _, p, _ => by cases p
theorem Rps.dp : ∀ (ds : List D) (vs : List V), plains ds = true → Rps K F ds vs → DpAll K F vs (toPys ds)
  | [], vs, _, h => by
    have e : vs = [] := h
    rw [e]; exact .nil
  | d :: ds, vs, p, h => by
    obtain ⟨v, r, e, h1, h2⟩ := h
    rw [e]
    have p' : (plain d && plains ds) = true := p
    rw [Bool.and_eq_true] at p'
    exact .cons (Rp.dp d v p'.1 h1) (Rps.dp ds r p'.2 h2)
end
end
end Sym

/-! SymN: dicts whose keys are nested tuples; sorted(d) of such a dict with pairs of ints. -/
namespace Sym
open PySem PySem.Spec PyProof.Rows L2 Evl


/-- a key as data -/
def nkD : NestedKey → D
  | .none => .non
  | .num i => .int i
  | .text x => .str x
  | .tup ks => .tup (nkDs ks)
where nkDs : List NestedKey → List D
  | [] => []
  | k :: ks => nkD k :: nkDs ks
theorem nkD_tup (ks : List NestedKey) : nkD (.tup ks) = .tup (nkD.nkDs ks) := rfl
theorem nkDs_map : ∀ ks : List NestedKey, nkD.nkDs ks = ks.map nkD
  | [] => rfl
  | k :: ks => by
    show nkD k :: nkD.nkDs ks = _
    rw [nkDs_map ks, List.map_cons]
section
variable {X : Cx} {pins : List (Addr × Obj)} {σ : L2.St} {H : Hp} {s : Shared}
mutual
theorem nested_is (I : Inv X pins σ H s) : ∀ (k : NestedKey) (v : V) (u : Value), Rp X.K H (nkD k) v → RelV v u → NestedIs s.heap k u
  | .none, v, u, h, r => by
    have e : v = .non := h
    subst e
    cases r
    exact .none
  | .num i, v, u, h, r => by
    have e : v = .int i := h
    subst e
    obtain ⟨t, rfl⟩ := r
    exact .int i t
  | .text x, v, u, h, r => by
    have e : v = .str x := h
    subst e
    obtain ⟨t, rfl⟩ := r
    exact .text x t
  | .tup ks, v, u, h, r => by
    obtain ⟨a, vs, rfl, h2, h3⟩ := h
    cases r
    obtain ⟨its, rv, ⟨o, ho, hc, n, hd⟩, _⟩ := I.tuple h2
    exact .tup ho hc hd (nested_all I ks vs its h3 rv)
theorem nested_all (I : Inv X pins σ H s) : ∀ (ks : List NestedKey) (vs : List V) (us : List Value), Rps X.K H (nkD.nkDs ks) vs → Vals vs us → NestedAll s.heap ks us
  | [], vs, us, h, r => by
    have e : vs = [] := h
    subst e
    cases r
    exact .nil
  | k :: ks, vs, us, h, r => by
    obtain ⟨v, w, rfl, h1, h2⟩ := h
    cases r with
    | cons r1 r2 => exact .cons (nested_is I k v _ h1 r1) (nested_all I ks w _ h2 r2)
end
end
abbrev WK := List (NestedKey × Addr × V)
def atW (ws : WK) (k : NestedKey) : Option (Addr × V) := (ws.find? fun x => decide (x.1 = k)).map (·.2)
def stW (ws : WK) (k : NestedKey) (t : Addr) (v : V) : WK := if (atW ws k).isSome then ws.map (fun x => if x.1 = k then (x.1, x.2.1, v) else x) else ws ++ [(k, t, v)]
abbrev WX' : WK → List (NestedKey × Addr × Value) → Prop := Paired fun p q => p.1 = q.1 ∧ p.2.1 = q.2.1 ∧ RelV p.2.2 q.2.2
/-- a dict whose keys are nested tuples: the keys, where their tuples stand, the values -/
def DN (P : Program) (w : World) (a : Addr) (ws : WK) : HO := .ext fun h => ws.length ≤ sizeLine ∧ (a == sysModules) = false ∧ ∃ xs, WX' ws xs ∧ (xs.map (·.1)).Nodup ∧
  ∃ o es ep, h.get? a = some o ∧ o.ExactDict ∧ o.data = .dict es ep ∧ es.toList = xs.map (entryOfKey (nestedKind P w))
def KeyOk (K : PySem.W.Frag) (H : Hp) (k : NestedKey) (t : Addr) : Prop := Rp K H (nkD k) (.ref t) ∧ k.depth ≤ 8
theorem KeyOk.mono {K : PySem.W.Frag} {H H' : Hp} (e : Ex H H') {k : NestedKey} {t : Addr} (h : KeyOk K H k t) : KeyOk K H' k t := ⟨Rp.mono e _ _ h.1, h.2⟩
/-- in a state: the dict at a -/
def DNat (P : Program) (w : World) (K : PySem.W.Frag) (H : Hp) (a : Addr) (ws : WK) : Prop := H a = some (DN P w a ws) ∧ ∀ e ∈ ws, KeyOk K H e.1 e.2.1
theorem wx_at {ws : WK} {xs : List (NestedKey × Addr × Value)} (h : WX' ws xs) (k : NestedKey) : (match atW ws k, atKey xs k with | none, none => True | some p, some q => p.1 = q.1 ∧ RelV p.2 q.2 | _, _ => False) := by
  induction h with
  | nil => trivial
  | @cons p q ps qs r t ih =>
    obtain ⟨r1, r2, r3⟩ := r
    unfold atW atKey at *
    by_cases e : p.1 = k
    · have e' : q.1 = k := r1 ▸ e
      simp only [List.find?_cons, decide_eq_true e, decide_eq_true e', Option.map_some]
      exact ⟨r2, r3⟩
    · have e' : ¬ q.1 = k := fun z => e (r1.trans z)
      simp only [List.find?_cons, decide_eq_false e, decide_eq_false e']
      exact ih
theorem wx_some {ws : WK} {xs : List (NestedKey × Addr × Value)} (h : WX' ws xs) {k : NestedKey} {p : Addr × V} (e : atW ws k = some p) : ∃ q, atKey xs k = some q ∧ p.1 = q.1 ∧ RelV p.2 q.2 := by
  have m := wx_at h k
  rw [e] at m
  cases q : atKey xs k with
  | none => rw [q] at m; exact m.elim
  | some q' => rw [q] at m; exact ⟨q', rfl, m⟩
theorem wx_is {ws : WK} {xs : List (NestedKey × Addr × Value)} (h : WX' ws xs) (k : NestedKey) : (atW ws k).isSome = (atKey xs k).isSome := by
  have m := wx_at h k
  cases p : atW ws k <;> cases q : atKey xs k <;> rw [p, q] at m <;> first | rfl | exact m.elim
theorem wx_put {ws : WK} {xs : List (NestedKey × Addr × Value)} (h : WX' ws xs) (k : NestedKey) (t : Addr) {v : V} {u : Value} (r : RelV v u) : WX' (stW ws k t v) (storedH xs k t u) := by
  have m : ∀ {ws : WK} {xs : List (NestedKey × Addr × Value)}, WX' ws xs → WX' (ws.map fun x => if x.1 = k then (x.1, x.2.1, v) else x) (xs.map (putAt k u)) := by
    intro ws xs h
    induction h with
    | nil => exact .nil
    | @cons p q ps qs r' t' ih =>
      obtain ⟨r1, r2, r3⟩ := r'
      refine .cons ?_ ih
      unfold putAt
      by_cases e : p.1 = k
      · have e' : q.1 = k := r1 ▸ e
        simp only [if_pos e, if_pos e']
        exact ⟨r1, r2, r⟩
      · have e' : ¬ q.1 = k := fun z => e (r1.trans z)
        simp only [if_neg e, if_neg e']
        exact ⟨r1, r2, r3⟩
  have ap : ∀ {ws : WK} {xs : List (NestedKey × Addr × Value)}, WX' ws xs → WX' (ws ++ [(k, t, v)]) (xs ++ [(k, t, u)]) := by
    intro ws xs h
    induction h with
    | nil => exact .cons ⟨rfl, rfl, r⟩ .nil
    | cons r' t' ih => exact .cons r' ih
  unfold stW storedH
  rw [wx_is h k]
  split
  · exact m h
  · exact ap h
theorem stW_len (ws : WK) (k : NestedKey) (t : Addr) (v : V) : (stW ws k t v).length ≤ ws.length + 1 := by
  unfold stW
  split <;> simp
theorem stW_keys {ws : WK} {k : NestedKey} {t : Addr} {v : V} {e : NestedKey × Addr × V} (h : e ∈ stW ws k t v) : (∃ f ∈ ws, f.1 = e.1 ∧ f.2.1 = e.2.1) ∨ (e.1 = k ∧ e.2.1 = t) := by
  unfold stW at h
  split at h
  · obtain ⟨f, hf, rfl⟩ := List.mem_map.mp h
    refine .inl ⟨f, hf, ?_⟩
    split <;> exact ⟨rfl, rfl⟩
  · rcases List.mem_append.mp h with h | h
    · exact .inl ⟨e, h, rfl, rfl⟩
    · rw [List.mem_singleton.mp h]
      exact .inr ⟨rfl, rfl⟩
section
variable {X : Cx} {pins : List (Addr × Obj)} {σ : L2.St} {H : Hp} {s : Shared} {a : Addr} {ws : WK}
theorem dn_of (I : Inv X pins σ H s) (d : DNat X.prog X.w X.K H a ws) : ws.length ≤ sizeLine ∧ (a == sysModules) = false ∧ ∃ xs, WX' ws xs ∧ s.heap.DictOfH (nestedKind X.prog X.w) a xs := by
  obtain ⟨hd, hk⟩ := d
  obtain ⟨⟨z, lo, xs, rel, nd, o, es, ep, h1, h2, h3, h4⟩, _⟩ := (show ObjOk X.prog X.w H s.heap a (DN X.prog X.w a ws) from I.hok a _ hd)
  refine ⟨z, lo, xs, rel, o, es, ep, h1, h2, h3, h4, ?_, nd⟩
  have all : ∀ {ws : WK} {xs : List (NestedKey × Addr × Value)}, WX' ws xs → (∀ e ∈ ws, KeyOk X.K H e.1 e.2.1) → ∀ x ∈ xs, (nestedKind X.prog X.w).is s.heap x.1 x.2.1 := by
    intro ws xs q
    induction q with
    | nil => intro _ x hx; exact nomatch hx
    | @cons p q ps qs hq t ih =>
      intro hk x hx
      rcases List.mem_cons.mp hx with e | hx
      · subst e
        have k1 := hk p List.mem_cons_self
        rw [hq.1, hq.2.1] at k1
        exact ⟨nested_is I _ _ _ k1.1 rfl, k1.2⟩
      · exact ih (fun e he => hk e (List.mem_cons_of_mem _ he)) x hx
  exact all rel hk
theorem dn_is (I : Inv X pins σ H s) (d : DNat X.prog X.w X.K H a ws) : s.TypeIs (.ref a) "dict" := let ⟨_, _, _, _, dd⟩ := dn_of I d; dd.typeIs
theorem key_is (I : Inv X pins σ H s) {k : NestedKey} {t : Addr} (h : KeyOk X.K H k t) : (nestedKind X.prog X.w).is s.heap k t := ⟨nested_is I _ _ _ h.1 rfl, h.2⟩
/-- what is asked of the key y -/
def KeyV (K : PySem.W.Frag) (H : Hp) (k : NestedKey) (y : V) : Prop := ∃ t, y = .ref t ∧ KeyOk K H k t
/-- {} -/
def tDNewN (P : Program) (w : World) : TE := fun _ H Q => ∀ p, H p = none → Q (.ref p) (upd H p (DN P w p []))
theorem pe_dnewN {pos : Pos} : PE X (.Dict [] [] pos) (tDNewN X.prog X.w) := ⟨fun pins s σ H Q I h =>
  wpAny_Dict_empty ⟨.ref s.heap.objs.size, _, I.laid (a := s.heap.objs.size) (o := DN X.prog X.w s.heap.objs.size []) (t' := s.toks) (fun _ _ q => Heap.get?_push_of_some _ q) (Nat.le_refl _)
    ⟨⟨Nat.zero_le _, beq_eq_false_iff_ne.mpr (Ne.symm (Nat.ne_of_lt I.big)), [], .nil, List.nodup_nil, _, #[], 0, Heap.get?_push_size _ rfl, ⟨rfl, rfl, rfl⟩, rfl, rfl⟩, ⟨_, Heap.get?_push_size _ rfl⟩,
      fun h1 h2 ⟨z, lo, xs, rel, nd, o, es, ep, p1, p2, p3, p4⟩ k => ⟨z, lo, xs, rel, nd, o, es, ep, k o p1, p2, p3, p4⟩⟩, rfl, h _ (I.hok.fresh (Nat.le_refl _))⟩⟩
theorem dn_ok {P : Program} {w : World} {H : Hp} {h : Heap} {xs : List (NestedKey × Addr × Value)} (z : ws.length ≤ sizeLine) (lo : (a == sysModules) = false) (rel : WX' ws xs) (d : h.DictOfH (nestedKind P w) a xs) : ObjOk P w H h a (DN P w a ws) := by
  obtain ⟨o, es, ep, p1, p2, p3, p4, _, nd⟩ := d
  exact ⟨⟨z, lo, xs, rel, nd, o, es, ep, p1, p2, p3, p4⟩, ⟨o, p1⟩, fun h1 h2 ⟨z, lo, xs, rel, nd, o, es, ep, p1, p2, p3, p4⟩ k => ⟨z, lo, xs, rel, nd, o, es, ep, k o p1, p2, p3, p4⟩⟩
/-- in, not in -/
def rInN (P : Program) (w : World) (K : PySem.W.Frag) (neg : Bool) : R2 := fun y x H Q => ∃ a ws k, x = .ref a ∧ DNat P w K H a ws ∧ KeyV K H k y ∧ Q (.bl (if neg then !(atW ws k).isSome else (atW ws k).isSome)) H
theorem op_inN (hu : X.A.units + 64 < cLine) : OpR X (compareOp .In) (rInN X.prog X.w X.K false) := by
  intro pins s σ H x y v u Q I rx ry h
  obtain ⟨a, ws, k, rfl, d, ⟨t, rfl, kk⟩, q⟩ := h
  cases rx
  cases ry
  obtain ⟨z, lo, xs, rel, dd⟩ := dn_of I d
  refine wpAny_in_heap (show X.A.units + 1 + 8 < cLine by omega) (key_is I kk) lo dd ?_
  rw [← wx_is rel k]
  exact ⟨.bl _, H, I.tok _, rfl, q⟩
theorem op_notInN (hu : X.A.units + 64 < cLine) : OpR X (compareOp .NotIn) (rInN X.prog X.w X.K true) := by
  intro pins s σ H x y v u Q I rx ry h
  obtain ⟨a, ws, k, rfl, d, ⟨t, rfl, kk⟩, q⟩ := h
  cases rx
  cases ry
  obtain ⟨z, lo, xs, rel, dd⟩ := dn_of I d
  refine wpAny_notIn_heap (show X.A.units + 1 + 8 < cLine by omega) (key_is I kk) lo dd ?_
  rw [← wx_is rel k]
  exact ⟨.bl _, H, I.tok _, rfl, q⟩
/-- d[k] -/
def tNGet (P : Program) (w : World) (K : PySem.W.Frag) (td ty : TE) : TE := fun σ H Q => td σ H fun x H1 => ty σ H1 fun y H2 => ∃ a ws k p, x = .ref a ∧ DNat P w K H2 a ws ∧ KeyV K H2 k y ∧ atW ws k = some p ∧ Q p.2 H2
theorem pe_nget {o i : Expr} {pos : Pos} {td ty : TE} (hu : X.A.units + 64 < cLine) (ho : PE X o td) (hi : PE X i ty) (hs : NoSl i) : PE X (.Subscript o i pos) (tNGet X.prog X.w X.K td ty) := by
  constructor
  intro pins s σ H Q I h
  refine subD_of PySem.F.slot_dict_getitem.lookup hs (thn (ho.run pins s σ H _ I h) ?_)
  rintro u s1 ⟨x, H1, I1, rx, q1⟩
  refine thn (hi.run pins s1 σ H1 _ I1 q1) ?_
  rintro iv s2 ⟨y, H2, I2, ry, a, ws, k, p, rfl, d, ⟨t, rfl, kk⟩, e, q2⟩
  cases rx
  cases ry
  obtain ⟨z, lo, xs, rel, dd⟩ := dn_of I2 d
  obtain ⟨q, h1, h2, h3⟩ := wx_some rel e
  exact ⟨dd.typeIs, wpAny_getItem_heap (show X.A.units + 1 + 8 < cLine by omega) (key_is I2 kk) dd h1 ⟨_, H2, I2.tok _, h3, q2⟩⟩
/-- d.get(k, x) -/
def tNGet2 (P : Program) (w : World) (K : PySem.W.Frag) (td ty tx : TE) : TE := fun σ H Q => td σ H fun x H1 => (∃ a ws, x = .ref a ∧ DNat P w K H1 a ws) ∧ ty σ H1 fun y H2 => tx σ H2 fun z H3 =>
  ∃ a ws k, x = .ref a ∧ DNat P w K H3 a ws ∧ KeyV K H3 k y ∧ Q (((atW ws k).map (·.2)).getD z) H3
theorem pe_nget2 {o e f : Expr} {apos cpos : Pos} {td ty tx : TE} (hu : X.A.units + 64 < cLine) (ho : PE X o td) (he : PE X e ty) (hf : PE X f tx) (m : M2 X o "get" apos e f cpos) : PE X (.Call (.Attribute o "get" apos) [e, f] [] cpos) (tNGet2 X.prog X.w X.K td ty tx) := by
  constructor
  intro pins s σ H Q I h
  refine wpAny_Call_method m.base m.few m.line PySem.F.plainAttrs_dict PySem.F.slot_dict_get PySem.F.type_dict_get (thn (ho.run pins s σ H _ I h) ?_)
  rintro u s1 ⟨x, H1, I1, rx, ⟨a0, ws0, rfl, d0⟩, q1⟩
  cases rx
  obtain ⟨_, _, _, _, dd0⟩ := dn_of I1 d0
  refine ⟨dd0.typeIs, fun b q => ?_, ?_⟩
  · cases q
    obtain ⟨ob, _, _, h1, h2, _⟩ := dd0
    exact ⟨ob, h1, h2.2.1⟩
  rw [m.trees]
  refine Calls.callWith_builtin rfl (Calls.evalArgs_plain (Calls.spliced_cons (thn (he.run pins s1 σ H1 _ I1 q1) ?_)))
  rintro iv s2 ⟨y, H2, I2, ry, q2⟩
  refine Calls.spliced_cons (thn (hf.run pins s2 σ H2 _ I2 q2) ?_)
  rintro fv s3 ⟨z, H3, I3, rz, a, ws, k, ea, d, ⟨t, rfl, kk⟩, q3⟩
  cases ea
  cases ry
  refine Calls.spliced_nil ?_
  obtain ⟨_, lo, xs, rel, dd⟩ := dn_of I3 d
  refine call_meetsIn PySem.F.slot_dict_get dd.typeIs PySem.F.entry_dict_get (PySem.F.args_dict_get_3 _ _ _) (meetsH_dict_get_default (nestedKind X.prog X.w) _ t lo fv) ⟨(show X.A.units + 1 + 8 < cLine by omega), k, xs, key_is I3 kk, dd, _, H3, I3.tok _, ?_, q3⟩
  have mm := wx_at rel k
  cases p : atW ws k <;> cases q : atKey xs k <;> rw [p, q] at mm
  · exact rz
  · exact mm.elim
  · exact mm.elim
  · exact mm.2
/-- d[k] = v -/
def sNPut (P : Program) (w : World) (K : PySem.W.Frag) (td ty tv : TE) : TS := fun Dn σ H => tv σ H fun v H1 => td σ H1 fun x H2 => ty σ H2 fun y H3 => ∃ a ws k t, x = .ref a ∧ DNat P w K H3 a ws ∧ y = .ref t ∧ KeyOk K H3 k t ∧ ws.length < sizeLine ∧ Dn.nx σ (upd H3 a (DN P w a (stW ws k t v)))
theorem ps_nput {o i value : Expr} {pos pos' : Pos} {td ty tv : TE} (hu : X.A.units + 64 < cLine) (ho : PE X o td) (hi : PE X i ty) (hv : PE X value tv) (hs : swapsWith value (some (.Subscript o i pos')) pos.line X.env = pure false) :
    PS X (.Assign [.Subscript o i pos'] value pos) (sNPut X.prog X.w X.K td ty tv) := by
  constructor
  intro pins s σ H Dn I h
  refine wpAny_Assign_Subscript (thn (hv.run pins s σ H _ I h) ?_) hs
  rintro r s1 ⟨v, H1, I1, rv, q1⟩
  refine thn (ho.run pins s1 σ H1 _ I1 q1) ?_
  rintro u s2 ⟨x, H2, I2, rx, q2⟩
  refine thn (hi.run pins s2 σ H2 _ I2 q2) ?_
  rintro iv s3 ⟨y, H3, I3, ry, a, ws, k, t, rfl, d, rfl, kk, hz, q3⟩
  cases rx
  cases ry
  obtain ⟨z, lo, xs, rel, dd⟩ := dn_of I3 d
  have hl : xs.length ≤ sizeLine := by rw [← Paired.length rel]; exact z
  refine wpAny_setItem_heap (hsz := hl) (show X.A.units + 1 + 8 < cLine by omega) (key_is I3 kk) dd fun h' dd' hs => ?_
  obtain ⟨o', _, _, ho', _⟩ := id dd'
  have J := d_write (t' := s3.toks + (nestedKind X.prog X.w).draws k) I3 (by rw [d.1]; exact True.intro) hs ⟨_, ho'⟩ (dn_ok (H := upd H3 a (DN X.prog X.w a (stW ws k t v))) (Nat.le_trans (stW_len ws k t v) hz) lo (wx_put rel k t rv) dd')
  exact ⟨σ, _, J, q3⟩
/-- len(d) -/
def rLenN (P : Program) (w : World) (K : PySem.W.Frag) : List V → Hp → VK → Prop := fun xs H Q => ∃ a ws, xs = [.ref a] ∧ DNat P w K H a ws ∧ Q (.int ((ws.length : Nat) : Int)) H
theorem call_lenN : CallR X (.builtin "len") (rLenN X.prog X.w X.K) := by
  intro pins s σ H xs us Q I r h
  obtain ⟨a, ws, rfl, d, q⟩ := h
  obtain ⟨u, rfl, rx⟩ := vals1 r
  cases rx
  obtain ⟨z, lo, xs, rel, dd⟩ := dn_of I d
  have hl : ws.length = xs.length := Paired.length rel
  refine call_len_dictH lo dd (by rw [← hl]; rw [sizeLine_eq] at z; omega) ?_
  rw [← hl]
  exact ⟨.int ((ws.length : Nat) : Int), H, I.tok _, ⟨_, rfl⟩, q⟩

/-! ### sorted(d), the keys pairs of ints -/
def pairK (p : Int × Int) : NestedKey := .tup [.num p.1, .num p.2]
/-- the pair at a value, by the entries -/
def pairOf (ws : WK) (v : Value) : Int × Int := match v with
  | .ref q => match ws.find? fun e => decide (e.2.1 = q) with
    | some (.tup [.num i, .num j], _) => (i, j)
    | _ => (0, 0)
  | _ => (0, 0)
theorem isPair_of (I : Inv X pins σ H s) {p : Int × Int} {t : Addr} (h : KeyOk X.K H (pairK p) t) : Srt.IsPair s.heap (.ref t) p.1 p.2 := by
  have q := nested_is I _ _ _ h.1 rfl
  obtain ⟨a, vs, ea, h2, h3⟩ := h.1
  cases ea
  obtain ⟨v, r, rfl, e1, h4⟩ := h3
  obtain ⟨v2, r2, rfl, e2, h5⟩ := h4
  have e3 : r2 = [] := h5
  have e1' : v = .int p.1 := e1
  have e2' : v2 = .int p.2 := e2
  subst e3 e1' e2'
  obtain ⟨its, rv, ⟨o, ho, hc, n, hd⟩, _⟩ := I.tuple h2
  obtain ⟨u1, u2, rfl, r1, r2⟩ := vals2 rv
  obtain ⟨t1, rfl⟩ := r1
  obtain ⟨t2, rfl⟩ := r2
  exact ⟨t, o, t1, t2, n, rfl, ho, hc, hd⟩
theorem pairOf_at {ws : WK} {ks : List (Int × Int)} (hks : ws.map (·.1) = ks.map pairK) (inj : ∀ e ∈ ws, ∀ f ∈ ws, e.2.1 = f.2.1 → e.1 = f.1) {j : Nat} {e : NestedKey × Addr × V} (he : ws[j]? = some e) : ∃ p, ks[j]? = some p ∧ e.1 = pairK p ∧ pairOf ws (.ref e.2.1) = p := by
  have e1 := congrArg (fun l => l[j]?) hks
  simp only [List.getElem?_map, he, Option.map_some] at e1
  cases hk : ks[j]? with
  | none => rw [hk] at e1; cases e1
  | some p =>
    rw [hk] at e1
    have e2 : e.1 = pairK p := Option.some.inj e1
    refine ⟨p, rfl, e2, ?_⟩
    have hm : e ∈ ws := List.mem_of_getElem? he
    unfold pairOf
    cases hf : ws.find? fun f => decide (f.2.1 = e.2.1) with
    | none =>
      have := List.find?_eq_none.mp hf e hm
      simp at this
    | some f =>
      have h1 := List.find?_some hf
      have h2 := List.mem_of_find?_eq_some hf
      have h3 : f.1 = e.1 := inj f h2 e hm (of_decide_eq_true h1)
      obtain ⟨fk, fa, fv⟩ := f
      dsimp only at h3
      rw [e2] at h3
      subst h3
      simp only [hf]
      rfl
def rSortN (P : Program) (w : World) (K : PySem.W.Frag) : List V → Hp → VK → Prop := fun vs H Q => ∃ (a : Addr) (ws : WK) (ks : List (Int × Int)), vs = [.ref a] ∧ DNat P w K H a ws ∧ ws.map (·.1) = ks.map pairK ∧
  ∀ (ys : List (Addr × (Int × Int))) p, (∀ y ∈ ys, ∃ e ∈ ws, e.1 = pairK y.2 ∧ e.2.1 = y.1) → (ys.map (·.2)).Perm ks → (ys.map (·.2)).Pairwise (fun p q => SrtO.lexB q p = false) → H p = none →
    Q (.ref p) (upd H p (.lst (ys.map fun y => .ref y.1)))
theorem cr_sortN (hcalm : X.calm = true) : CallR X (.builtin "sorted") (rSortN X.prog X.w X.K) := by
  intro pins s σ H xs us Q I r q
  obtain ⟨a, ws, ks, rfl, d, hks, q⟩ := q
  obtain ⟨u, rfl, rx⟩ := vals1 r
  cases rx
  obtain ⟨z, lo, ent, rel, dd⟩ := dn_of I d
  obtain ⟨es, ep, raw, hes, heach⟩ := dd.raw
  have hl : ent.length = ws.length := (Paired.length rel).symm
  have h16 : es.size ≤ sizeLine := by rw [hes, hl]; exact z
  have hkl : ws.length = ks.length := by
    have e := congrArg List.length hks
    rw [List.length_map, List.length_map] at e
    exact e
  have inj : ∀ e ∈ ws, ∀ f ∈ ws, e.2.1 = f.2.1 → e.1 = f.1 := fun e he f hf eq => by
    have k1 := key_is I (d.2 e he)
    have k2 := key_is I (d.2 f hf)
    rw [eq] at k1
    exact (nestedKind X.prog X.w).inj k1 k2
  refine Calls.call_function_entry kind_sorted plain_sorted entry_sorted (args_sorted1 _) ?_
  unfold Builtin.«sorted»
  refine wpAny_bind (m := checkCount "sorted" 1 1 _) (wpAny_pure ?_)
  refine wpAny_bind (PySem.W.kdu_collect (A := X.A.in1) (KdlSrc.rawDict (prog := X.prog) (w := X.w) (es := es) (ep := ep) lo) (I.ok.hd hcalm) raw h16 fun h' tk acc hk hacc => ?_)
  have I1 : Inv X pins σ H { s with heap := h', toks := tk } := I.kept hk
  have each : ∀ (j : Nat) (v : Value), acc.toList[j]? = some v → ∃ (qa : Addr) (p : Int × Int), v = .ref qa ∧ ks[j]? = some p ∧ (∃ e ∈ ws, e.1 = pairK p ∧ e.2.1 = qa) ∧ pairOf ws v = p := fun j v e => by
    obtain ⟨hj, ev⟩ := hacc.2 j v (by rw [← Array.getElem?_toList]; exact e)
    obtain ⟨y, hy, ek, _, _⟩ := heach j hj
    have hjk : j < ws.length := by rw [← hl, ← hes]; exact hj
    have hw : ws[j]? = some ws[j] := by simp [hjk]
    obtain ⟨y', hy', e1, e2, _⟩ := paired_get rel hw
    rw [hy] at hy'
    cases hy'
    obtain ⟨p, hp, e3, e4⟩ := pairOf_at hks inj hw
    refine ⟨ws[j].2.1, p, by rw [ev, ek, e2], hp, ?_, ?_⟩
    · exact ⟨_, List.mem_of_getElem? hw, e3, rfl⟩
    · rw [ev, ek, ← e2]
      exact e4
  have hal : acc.toList.length = ks.length := by rw [Array.length_toList, hacc.1, hes, hl, hkl]
  have hpair : ∀ v ∈ acc.toList, Srt.IsPair h' v (pairOf ws v).1 (pairOf ws v).2 := fun v hv => by
    obtain ⟨j, hj⟩ := List.mem_iff_getElem?.mp hv
    obtain ⟨qa, p, rfl, _, hq, e⟩ := each j v hj
    rw [e]
    obtain ⟨e0, m0, e1, e2⟩ := hq
    exact isPair_of I1 (e1 ▸ e2 ▸ d.2 e0 m0)
  have hmap : acc.toList.map (pairOf ws) = ks := by
    apply List.ext_getElem?
    intro j
    rw [List.getElem?_map]
    cases e : acc.toList[j]? with
    | none =>
      have : acc.toList.length ≤ j := List.getElem?_eq_none_iff.mp e
      rw [List.getElem?_eq_none (by omega)] <;> rfl
    | some v =>
      obtain ⟨qa, p, rfl, hp, hq, e4⟩ := each j v e
      rw [hp, ← e4] <;> rfl
  refine wpAny_bind (wpAny_newList ?_ (by rw [hal, ← hkl]; exact z))
  have hoL : (h'.push (seqObj "list" acc.toList.toArray 0)).get? h'.objs.size = some (seqObj "list" acc.toList.toArray 0) := Heap.get?_push_size _ rfl
  show wpAny _ _ _ _ _ { s with heap := h'.push (seqObj "list" acc.toList.toArray 0), toks := tk }
  refine wpAny_bind (wpAny_holding (wpAny_call_entry slot_list_sort ⟨_, hoL, rfl⟩ entry_list_sort
    (SrtO.list_sort_ord (s := { s with heap := h'.push (seqObj "list" acc.toList.toArray 0), toks := tk }) (SrtO.swo_lex (pairOf ws)) hoL (by rw [hal, ← hkl]; exact z) (fun h2 => SrtO.pairs_sortableO (k := pairOf ws) (by omega)
      (fun v hv => (hpair v hv).keeps fun b o e _ => Heap.get?_push_of_some _ e) fun o e => by
        have e' := hoL.symm.trans e
        cases e'
        intro c
        exact absurd (Value.type.inj c) (by decide)) fun out g1 g2 => ⟨_, rfl, ?_⟩) (args_list_sort _)))
  obtain ⟨e', he'⟩ := sortedHeap_at (vs := acc.toList) (out := out.toArray) hoL
  have hmem : ∀ v ∈ out, ∃ qa p, v = .ref qa ∧ (∃ e ∈ ws, e.1 = pairK p ∧ e.2.1 = qa) ∧ pairOf ws v = p := fun v hv => by
    obtain ⟨j, hj⟩ := List.mem_iff_getElem?.mp (g2.perm.mem_iff.mp hv)
    obtain ⟨qa, p, rfl, hp, hq, e4⟩ := each j v hj
    exact ⟨qa, p, rfl, hq, e4⟩
  have ho : out.length ≤ sizeLine := by rw [g2.perm.length_eq, hal, ← hkl]; exact z
  have vals : Vals (out.map backV) out := vals_back fun v hv => let ⟨qa, _, e, _⟩ := hmem v hv; ⟨qa, e⟩
  let ys : List (Addr × (Int × Int)) := out.map fun v => ((match v with | .ref qa => qa | _ => 0), pairOf ws v)
  have hys : ys.map (fun y => V.ref y.1) = out.map backV := by
    show (out.map _).map _ = _
    rw [List.map_map]
    refine List.map_congr_left fun v hv => ?_
    obtain ⟨qa, p, rfl, _⟩ := hmem v hv
    rfl
  have hys2 : ys.map (·.2) = out.map (pairOf ws) := by
    show (out.map _).map _ = _
    rw [List.map_map] <;> rfl
  refine wpAny_pure ⟨_, rfl, .ref h'.objs.size, upd H h'.objs.size (.lst (out.map backV)), I1.laid (t' := tk) (fun b u e => ?_) (Nat.le_refl _)
    (show ObjOk X.prog X.w _ _ _ (.lst (out.map backV)) from ⟨by rw [List.length_map]; exact ho, out, e', vals, he'⟩), rfl, ?_⟩
  · have hb : b < h'.objs.size := Heap.lt_size e
    rw [sortedHeap_old (Nat.ne_of_lt hb) (by rw [size_push']; exact Nat.lt_succ_of_lt hb)]
    exact Heap.get?_push_of_some _ e
  · rw [← hys]
    refine q ys h'.objs.size (fun y hy => ?_) ?_ ?_ (I1.hok.fresh (Nat.le_refl _))
    · obtain ⟨v, hv, rfl⟩ := List.mem_map.mp hy
      obtain ⟨qa, p, rfl, h1, h2⟩ := hmem v hv
      show ∃ e ∈ ws, e.1 = pairK (pairOf ws (.ref qa)) ∧ e.2.1 = qa
      rw [h2]
      exact h1
    · rw [hys2, ← hmap]
      exact g2.perm.map _
    · rw [hys2]
      exact SrtO.srtd_map (lt := SrtO.lexB) (f := pairOf ws) g1
end
end Sym

/-! Sym1: the state by data, what an expression, a test, a statement does to it. -/
namespace Sym
open PySem L2 Evl

/-- what a slot holds: data that no longer changes; a list, a dict of the def's own that still changes -/
inductive S where
  | im (d : D)
  | ml (xs : List D)
  | mk (kvs : List (Key × D))
  | mn (P : Program) (w : World) (kvs : List (NestedKey × D))
abbrev Env' := List (Option S)

def S.mut : S → Bool
  | .im _ => false
  | _ => true

/-- what may be laid into the frozen part later -/
def Fix : HO → Prop
  | .tup _ => True
  | .xd _ => True
  | _ => False
structure Grow (F H F' H' : Hp) : Prop where
  ff : Ex F F'
  hh : Ex H H'
  fh : Ex F' H'
  nw : ∀ a o, F a = none → H a = some o → ¬ Fix o → F' a = none
theorem Grow.refl {F H : Hp} (e : Ex F H) : Grow F H F H := ⟨Ex.refl F, Ex.refl H, e, fun _ _ h _ _ => h⟩
theorem Grow.trans {F H F1 H1 F2 H2 : Hp} (a : Grow F H F1 H1) (b : Grow F1 H1 F2 H2) : Grow F H F2 H2 :=
  ⟨a.ff.trans b.ff, a.hh.trans b.hh, b.fh, fun x o h1 h2 h3 => b.nw x o (a.nw x o h1 h2 h3) (a.hh x o h2) h3⟩
/-- a new object, laid into both -/
theorem Grow.new {F H : Hp} {p : Addr} {o : HO} (e : Ex F H) (hp : H p = none) : Grow F H (upd F p o) (upd H p o) := by
  have fp : F p = none := fresh_back e hp
  refine ⟨Ex.new fp, Ex.new hp, fun a u h => ?_, fun a u h1 h2 _ => ?_⟩
  · by_cases q : a = p
    · subst q
      rw [upd_same] at h ⊢
      exact h
    · rw [upd_ne q] at h ⊢
      exact e a u h
  · have q : a ≠ p := fun z => by subst z; rw [hp] at h2; cases h2
    rw [upd_ne q]
    exact h1

section
variable (K : PySem.W.Frag)
def Kvs {κ : Type} (F : Hp) : List (κ × D) → List (κ × V) → Prop := Paired fun (p : κ × D) (q : κ × V) => p.1 = q.1 ∧ Rp K F p.2 q.2
def kvW (ws : WK) : List (NestedKey × V) := ws.map fun e => (e.1, e.2.2)
def SOk (H0 F H : Hp) : S → V → Prop
  | .im d, v => Rp K F d v
  | .ml xs, v => ∃ a vs, v = .ref a ∧ H0 a = none ∧ F a = none ∧ H a = some (.lst vs) ∧ Rps K F xs vs
  | .mk kvs, v => ∃ a ws, v = .ref a ∧ H0 a = none ∧ F a = none ∧ H a = some (.dK ws) ∧ Kvs K F kvs ws
  | .mn P w kvs, v => ∃ a ws, v = .ref a ∧ H0 a = none ∧ F a = none ∧ H a = some (DN P w a ws) ∧ Kvs K F kvs (kvW ws) ∧ ∀ e ∈ ws, KeyOk K F e.1 e.2.1
/-- the state: F0, H0 at the def's entry, F, H now -/
structure Sd (F0 H0 F H : Hp) (σ : L2.St) (ds : Env') : Prop where
  gr : Grow F0 H0 F H
  len : σ.length = ds.length
  at' : ∀ (i : Nat) s, ds[i]? = some (some s) → ∃ v, σ[i]? = some (some v) ∧ SOk K H0 F H s v
  ap : ∀ (i j : Nat) s t a, ds[i]? = some (some s) → ds[j]? = some (some t) → s.mut = true → t.mut = true → σ[i]? = some (some (.ref a)) → σ[j]? = some (some (.ref a)) → i = j
end

section
variable {K : PySem.W.Frag} {F0 H0 F H F' H' : Hp} {σ : L2.St} {ds : Env'}
theorem Kvs.mono {κ : Type} (e : Ex F F') {kvs : List (κ × D)} {ws : List (κ × V)} (h : Kvs K F kvs ws) : Kvs K F' kvs ws := Paired.mapP h fun p q r => ⟨r.1, Rp.mono e _ _ r.2⟩
theorem none_grow (g : Grow F H F' H') {a : Addr} {o : HO} (h : F a = none) (ho : H a = some o) (n : ¬ Fix o := by exact fun z => z) : F' a = none := g.nw a o h ho n
theorem SOk.grow (g : Grow F H F' H') : ∀ {s : S} {v : V}, SOk K H0 F H s v → SOk K H0 F' H' s v
  | .im d, v, h => Rp.mono g.ff d v h
  | .ml xs, v, h => by
    obtain ⟨a, vs, h1, h2, h3, h4, h5⟩ := h
    exact ⟨a, vs, h1, h2, none_grow g h3 h4, g.hh _ _ h4, Rps.mono g.ff _ _ h5⟩
  | .mk xs, v, h => by
    obtain ⟨a, vs, h1, h2, h3, h4, h5⟩ := h
    exact ⟨a, vs, h1, h2, none_grow g h3 h4, g.hh _ _ h4, h5.mono g.ff⟩
  | .mn P w xs, v, h => by
    obtain ⟨a, vs, h1, h2, h3, h4, h5, h6⟩ := h
    exact ⟨a, vs, h1, h2, none_grow g h3 h4, g.hh _ _ h4, h5.mono g.ff, fun e he => (h6 e he).mono g.ff⟩
theorem Sd.fh (h : Sd K F0 H0 F H σ ds) : Ex F H := h.gr.fh
theorem Sd.grow (h : Sd K F0 H0 F H σ ds) (g : Grow F H F' H') : Sd K F0 H0 F' H' σ ds :=
  ⟨h.gr.trans g, h.len, fun i s e => let ⟨v, h1, h2⟩ := h.at' i s e; ⟨v, h1, h2.grow g⟩, h.ap⟩
/-- a slot is given data -/
theorem Sd.set {i : Nat} {d : D} {v : V} (h : Sd K F0 H0 F H σ ds) (r : Rp K F d v) : Sd K F0 H0 F H (σ.set i (some v)) (ds.set i (some (.im d))) := by
  refine ⟨h.gr, by simp [h.len], fun j s e => ?_, fun j k s t a e1 e2 m1 m2 q1 q2 => ?_⟩
  · by_cases hj : i = j
    · subst hj
      by_cases hl : i < ds.length
      · rw [List.getElem?_set_self hl] at e
        cases e
        exact ⟨v, List.getElem?_set_self (by rw [h.len]; exact hl), r⟩
      · rw [List.getElem?_eq_none (by simp; omega)] at e
        cases e
    · rw [List.getElem?_set_ne hj] at e ⊢
      exact h.at' j s e
  · have hne : ∀ {j : Nat} {s : S}, (ds.set i (some (.im d)))[j]? = some (some s) → s.mut = true → i ≠ j := fun {j s} e m z => by
      subst z
      by_cases hl : i < ds.length
      · rw [List.getElem?_set_self hl] at e
        cases e
        cases m
      · rw [List.getElem?_eq_none (by simp; omega)] at e
        cases e
    have n1 := hne e1 m1
    have n2 := hne e2 m2
    rw [List.getElem?_set_ne n1] at e1 q1
    rw [List.getElem?_set_ne n2] at e2 q2
    exact h.ap j k s t a e1 e2 m1 m2 q1 q2
/-- a slot is forgotten -/
theorem Sd.forget {i : Nat} (h : Sd K F0 H0 F H σ ds) : Sd K F0 H0 F H σ (ds.set i none) := by
  have get : ∀ {j : Nat} {s : S}, (ds.set i none)[j]? = some (some s) → ds[j]? = some (some s) := fun {j s} e => by
    by_cases hj : i = j
    · subst hj
      by_cases hl : i < ds.length
      · rw [List.getElem?_set_self hl] at e
        cases e
      · rw [List.getElem?_eq_none (by simp; omega)] at e
        cases e
    · rw [List.getElem?_set_ne hj] at e
      exact e
  exact ⟨h.gr, by simp [h.len], fun j s e => h.at' j s (get e), fun j k s t a e1 e2 => h.ap j k s t a (get e1) (get e2)⟩
/-- σ and ds where ds says less -/
theorem Sd.less {ds' : Env'} (h : Sd K F0 H0 F H σ ds) (hl : ds'.length = ds.length) (w : ∀ (i : Nat) s, ds'[i]? = some (some s) → ds[i]? = some (some s)) : Sd K F0 H0 F H σ ds' :=
  ⟨h.gr, by rw [h.len, hl], fun j s e => h.at' j s (w j s e), fun j k s t a e1 e2 => h.ap j k s t a (w _ _ e1) (w _ _ e2)⟩
/-- a changing object is put into slot i: its address is not that of another one -/
theorem Sd.setM {i : Nat} {s : S} {a : Addr} (h : Sd K F0 H0 F H σ ds) (r : SOk K H0 F H s (.ref a)) (ha : ∀ (j : Nat) t, ds[j]? = some (some t) → t.mut = true → i ≠ j → σ[j]? ≠ some (some (.ref a))) :
    Sd K F0 H0 F H (σ.set i (some (.ref a))) (ds.set i (some s)) := by
  refine ⟨h.gr, by simp [h.len], fun j t e => ?_, fun j k t u b e1 e2 m1 m2 q1 q2 => ?_⟩
  · by_cases hj : i = j
    · subst hj
      by_cases hl : i < ds.length
      · rw [List.getElem?_set_self hl] at e
        cases e
        exact ⟨_, List.getElem?_set_self (by rw [h.len]; exact hl), r⟩
      · rw [List.getElem?_eq_none (by simp; omega)] at e
        cases e
    · rw [List.getElem?_set_ne hj] at e ⊢
      exact h.at' j t e
  · by_cases n1 : i = j
    · by_cases n2 : i = k
      · rw [← n1, ← n2]
      · exfalso
        subst n1
        have hl : i < ds.length := by
          by_cases hl : i < ds.length
          · exact hl
          · rw [List.getElem?_eq_none (by simp; omega)] at e1
            cases e1
        rw [List.getElem?_set_self (by rw [h.len]; exact hl)] at q1
        cases q1
        rw [List.getElem?_set_ne n2] at e2 q2
        exact ha k u e2 m2 n2 q2
    · by_cases n2 : i = k
      · exfalso
        subst n2
        have hl : i < ds.length := by
          by_cases hl : i < ds.length
          · exact hl
          · rw [List.getElem?_eq_none (by simp; omega)] at e2
            cases e2
        rw [List.getElem?_set_self (by rw [h.len]; exact hl)] at q2
        cases q2
        rw [List.getElem?_set_ne n1] at e1 q1
        exact ha j t e1 m1 n1 q1
      · rw [List.getElem?_set_ne n1] at e1 q1
        rw [List.getElem?_set_ne n2] at e2 q2
        exact h.ap j k t u b e1 e2 m1 m2 q1 q2
end

/-! ### what evaluates to what -/
section
variable (K : PySem.W.Frag)
def Ev (te : TE) (ds : Env') (d : D) : Prop := ∀ F0 H0 F H σ, Sd K F0 H0 F H σ ds → ∀ Q : VK, (∀ v F' H', Grow F H F' H' → Rp K F' d v → Q v H') → te σ H Q
def EvT (tt : TT) (ds : Env') (b : Bool) : Prop := ∀ F0 H0 F H σ, Sd K F0 H0 F H σ ds → ∀ Q : Bool → Hp → Prop, (∀ F' H', Grow F H F' H' → Q b H') → tt σ H Q
def EvA (ta : TA) (ds : Env') (es : List D) : Prop := ∀ F0 H0 F H σ, Sd K F0 H0 F H σ ds → ∀ Q : List V → Hp → Prop, (∀ vs F' H', Grow F H F' H' → Rps K F' es vs → Q vs H') → ta σ H Q
def EvO (to : TO) (ds : Env') (o : Option Int) : Prop := ∀ F0 H0 F H σ, Sd K F0 H0 F H σ ds → ∀ Q : Option Int → Hp → Prop, (∀ F' H', Grow F H F' H' → Q o H') → to σ H Q
/-- operations by values -/
def Op2 (r : R2) (x y z : D) : Prop := ∀ F H u v, Ex F H → Rp K F x u → Rp K F y v → ∀ Q : VK, (∀ w F' H', Grow F H F' H' → Rp K F' z w → Q w H') → r u v H Q
def Op1 (r : V → Hp → VK → Prop) (x z : D) : Prop := ∀ F H u, Ex F H → Rp K F x u → ∀ Q : VK, (∀ w F' H', Grow F H F' H' → Rp K F' z w → Q w H') → r u H Q
def OpN (r : List V → Hp → VK → Prop) (xs : List D) (z : D) : Prop := ∀ F H us, Ex F H → Rps K F xs us → ∀ Q : VK, (∀ w F' H', Grow F H F' H' → Rp K F' z w → Q w H') → r us H Q
def OpM (T : String) (r : V → List V → Hp → VK → Prop) (x : D) (xs : List D) (z : D) : Prop := ∀ F H u us, Ex F H → Rp K F x u → Rps K F xs us → ∀ Q : VK, (∀ w F' H', Grow F H F' H' → Rp K F' z w → Q w H') → r u us H Q
end
section
variable {K : PySem.W.Frag} {ds : Env'} {te ta tb tc : TE} {x y z d : D} {t u : TT} {tr : TA} {xs : List D} {b c : Bool}
theorem Ev.is {d' : D} (h : Ev K te ds d) (e : d = d') : Ev K te ds d' := e ▸ h
theorem EvT.is (h : EvT K t ds b) (e : b = c) : EvT K t ds c := e ▸ h
theorem ev_var {i : Nat} (h : ds[i]? = some (some (.im d))) : Ev K (tVar i) ds d := fun F0 H0 F H σ S Q q => by
  obtain ⟨v, h1, h2⟩ := S.at' i _ h
  exact ⟨v, h1, q v F H (.refl S.fh) h2⟩
theorem ev_int {i : Int} : Ev K (tC (.int i)) ds (.int i) := fun F0 H0 F H σ S Q q => q _ F H (.refl S.fh) rfl
theorem ev_str {i : Str} : Ev K (tC (.str i)) ds (.str i) := fun F0 H0 F H σ S Q q => q _ F H (.refl S.fh) rfl
theorem ev_bl {i : Bool} : Ev K (tC (.bl i)) ds (.bl i) := fun F0 H0 F H σ S Q q => q _ F H (.refl S.fh) rfl
theorem ev_non : Ev K (tC .non) ds .non := fun F0 H0 F H σ S Q q => q _ F H (.refl S.fh) rfl
theorem ev_op {v : V} : Ev K (tC v) ds (.op v) := fun F0 H0 F H σ S Q q => q _ F H (.refl S.fh) rfl
theorem ev_op2 {r : R2} (ha : Ev K ta ds x) (hb : Ev K tb ds y) (hr : Op2 K r x y z) : Ev K (tOp r ta tb) ds z := fun F0 H0 F H σ S Q q =>
  ha F0 H0 F H σ S _ fun u F1 H1 g1 r1 => hb F0 H0 F1 H1 σ (S.grow g1) _ fun v F2 H2 g2 r2 => hr F2 H2 u v g2.fh (r1.mono g2.ff) r2 Q fun w F3 H3 g3 r3 => q w F3 H3 ((g1.trans g2).trans g3) r3
theorem ev_op1 {r : V → Hp → VK → Prop} (ha : Ev K ta ds x) (hr : Op1 K r x z) : Ev K (tUn r ta) ds z := fun F0 H0 F H σ S Q q =>
  ha F0 H0 F H σ S _ fun u F1 H1 g1 r1 => hr F1 H1 u g1.fh r1 Q fun w F3 H3 g3 r3 => q w F3 H3 (g1.trans g3) r3
theorem ea_nil : EvA K tNil ds [] := fun F0 H0 F H σ S Q q => q [] F H (.refl S.fh) rfl
theorem ea_cons (ha : Ev K ta ds x) (hr : EvA K tr ds xs) : EvA K (tCons ta tr) ds (x :: xs) := fun F0 H0 F H σ S Q q =>
  ha F0 H0 F H σ S _ fun u F1 H1 g1 r1 => hr F0 H0 F1 H1 σ (S.grow g1) _ fun us F2 H2 g2 r2 => q (u :: us) F2 H2 (g1.trans g2) (.cons (r1.mono g2.ff) r2)
theorem ev_cb {r : List V → Hp → VK → Prop} (ha : EvA K tr ds xs) (hr : OpN K r xs z) : Ev K (tCB r tr) ds z := fun F0 H0 F H σ S Q q =>
  ha F0 H0 F H σ S _ fun us F1 H1 g1 r1 => hr F1 H1 us g1.fh r1 Q fun w F3 H3 g3 r3 => q w F3 H3 (g1.trans g3) r3
theorem sz_of {n : Nat} (h : n ≤ 16777216) : n ≤ sizeLine := by rw [sizeLine_eq]; exact h
theorem ev_lst (ha : EvA K tr ds xs) (hl : xs.length ≤ 16777216) : Ev K (tLst tr) ds (.lst xs) := fun F0 H0 F H σ S Q q =>
  ha F0 H0 F H σ S _ fun us F1 H1 g1 r1 => ⟨sz_of (by rw [← r1.length]; exact hl), fun p hp =>
    have g := Grow.new (o := .lst us) g1.fh hp
    q _ _ _ (g1.trans g) ⟨p, us, rfl, .inl (.inl upd_same), Rps.mono g.ff _ _ r1⟩⟩
theorem ev_tup (ha : EvA K tr ds xs) (hl : xs.length ≤ 16777216) : Ev K (tTup tr) ds (.tup xs) := fun F0 H0 F H σ S Q q =>
  ha F0 H0 F H σ S _ fun us F1 H1 g1 r1 => ⟨sz_of (by rw [← r1.length]; exact hl), fun p hp =>
    have g := Grow.new (o := .tup us) g1.fh hp
    q _ _ _ (g1.trans g) ⟨p, us, rfl, .inl (.inl upd_same), Rps.mono g.ff _ _ r1⟩⟩
theorem eo_none : EvO K tNoPart ds none := fun F0 H0 F H σ S Q q => q F H (.refl S.fh)
theorem eo_some {i : Int} (h : Ev K te ds (.int i)) : EvO K (tPart te) ds (some i) := fun F0 H0 F H σ S Q q =>
  h F0 H0 F H σ S _ fun u F1 H1 g1 r1 => ⟨i, r1, q F1 H1 g1⟩
/-- slices: the rule by values -/
def OpS (K : PySem.W.Frag) (r : V → Option Int → Option Int → Hp → VK → Prop) (x : D) (lo hi : Option Int) (z : D) : Prop := ∀ F H u, Ex F H → Rp K F x u → ∀ Q : VK, (∀ w F' H', Grow F H F' H' → Rp K F' z w → Q w H') → r u lo hi H Q
theorem ev_sl {r : V → Option Int → Option Int → Hp → VK → Prop} {tl th : TO} {lo hi : Option Int} (h : Ev K te ds x) (h1 : EvO K tl ds lo) (h2 : EvO K th ds hi) (hr : OpS K r x lo hi z) : Ev K (tSl r te tl th) ds z := fun F0 H0 F H σ S Q q =>
  h F0 H0 F H σ S _ fun u F1 H1 g1 r1 => h1 F0 H0 F1 H1 σ (S.grow g1) _ fun F2 H2 g2 => h2 F0 H0 F2 H2 σ ((S.grow g1).grow g2) _ fun F3 H3 g3 =>
    hr F3 H3 u g3.fh ((r1.mono g2.ff).mono g3.ff) Q fun w F4 H4 g4 r4 => q w F4 H4 (((g1.trans g2).trans g3).trans g4) r4
/-! tests -/
theorem et_test (h : Ev K te ds (.bl b)) : EvT K (tTest te) ds b := fun F0 H0 F H σ S Q q => h F0 H0 F H σ S _ fun u F1 H1 g1 r1 => ⟨b, r1, q F1 H1 g1⟩
theorem et_B (h : Ev K te ds (.bl b)) : EvT K (tB te) ds b := fun F0 H0 F H σ S Q q => h F0 H0 F H σ S _ fun u F1 H1 g1 r1 => ⟨b, r1, q F1 H1 g1⟩
theorem et_not (h : EvT K t ds b) : EvT K (tNot t) ds (!b) := fun F0 H0 F H σ S Q q => h F0 H0 F H σ S _ q
theorem et_and (h1 : EvT K t ds b) (h2 : b = true → EvT K u ds c) : EvT K (tAnd t u) ds (b && c) := fun F0 H0 F H σ S Q q => h1 F0 H0 F H σ S _ fun F1 H1 g1 => by
  cases b with
  | true =>
    show u σ H1 Q
    exact h2 rfl F0 H0 F1 H1 σ (S.grow g1) _ fun F2 H2 g2 => q F2 H2 (g1.trans g2)
  | false =>
    show Q false H1
    exact q F1 H1 g1
theorem et_or (h1 : EvT K t ds b) (h2 : b = false → EvT K u ds c) : EvT K (tOr t u) ds (b || c) := fun F0 H0 F H σ S Q q => h1 F0 H0 F H σ S _ fun F1 H1 g1 => by
  cases b with
  | true =>
    show Q true H1
    exact q F1 H1 g1
  | false =>
    show u σ H1 Q
    exact h2 rfl F0 H0 F1 H1 σ (S.grow g1) _ fun F2 H2 g2 => q F2 H2 (g1.trans g2)
theorem ev_notV (h : Ev K te ds (.bl b)) : Ev K (tNotV te) ds (.bl (!b)) := fun F0 H0 F H σ S Q q => h F0 H0 F H σ S _ fun u F1 H1 g1 r1 => ⟨b, r1, q _ F1 H1 g1 rfl⟩
theorem ev_andV (h1 : Ev K ta ds (.bl b)) (h2 : b = true → Ev K tb ds (.bl c)) : Ev K (tAndV ta tb) ds (.bl (b && c)) := fun F0 H0 F H σ S Q q => h1 F0 H0 F H σ S _ fun u F1 H1 g1 r1 => ⟨b, r1, by
  cases b with
  | true =>
    show tb σ H1 Q
    exact h2 rfl F0 H0 F1 H1 σ (S.grow g1) _ fun v F2 H2 g2 r2 => q v F2 H2 (g1.trans g2) r2
  | false =>
    show Q (.bl false) H1
    exact q _ F1 H1 g1 rfl⟩
theorem ev_orV (h1 : Ev K ta ds (.bl b)) (h2 : b = false → Ev K tb ds (.bl c)) : Ev K (tOrV ta tb) ds (.bl (b || c)) := fun F0 H0 F H σ S Q q => h1 F0 H0 F H σ S _ fun u F1 H1 g1 r1 => ⟨b, r1, by
  cases b with
  | true =>
    show Q (.bl true) H1
    exact q _ F1 H1 g1 rfl
  | false =>
    show tb σ H1 Q
    exact h2 rfl F0 H0 F1 H1 σ (S.grow g1) _ fun v F2 H2 g2 r2 => q v F2 H2 (g1.trans g2) r2⟩
theorem ev_if (h : EvT K t ds b) (h1 : b = true → Ev K ta ds d) (h2 : b = false → Ev K tb ds d) : Ev K (tIf t ta tb) ds d := fun F0 H0 F H σ S Q q => h F0 H0 F H σ S _ fun F1 H1 g1 => by
  cases b with
  | true =>
    show ta σ H1 Q
    exact h1 rfl F0 H0 F1 H1 σ (S.grow g1) _ fun v F2 H2 g2 r2 => q v F2 H2 (g1.trans g2) r2
  | false =>
    show tb σ H1 Q
    exact h2 rfl F0 H0 F1 H1 σ (S.grow g1) _ fun v F2 H2 g2 r2 => q v F2 H2 (g1.trans g2) r2
/-- either of two readings -/
def tOrE (t u : TE) : TE := fun σ H Q => t σ H Q ∨ u σ H Q
theorem ev_l (h : Ev K ta ds d) : Ev K (tOrE ta tb) ds d := fun F0 H0 F H σ S Q q => .inl (h F0 H0 F H σ S Q q)
theorem ev_r (h : Ev K tb ds d) : Ev K (tOrE ta tb) ds d := fun F0 H0 F H σ S Q q => .inr (h F0 H0 F H σ S Q q)
theorem pe_alt {X : Cx} {e : Expr} {t u : TE} (h1 : PE X e t) (h2 : PE X e u) : PE X e (tOrE t u) := ⟨fun pins s σ H Q I h => h.elim (h1.run pins s σ H Q I) (h2.run pins s σ H Q I)⟩
def iOrI (t u : TI) : TI := fun σ H R => t σ H R ∨ u σ H R
theorem pi_alt {X : Cx} {tg e : Expr} {t u : TI} (h1 : PI X tg e t) (h2 : PI X tg e u) : PI X tg e (iOrI t u) := ⟨fun pins s σ H R I h => h.elim (h1.run pins s σ H R I) (h2.run pins s σ H R I)⟩
end
end Sym

/-! Sym2: statements by data; loops; comprehensions; defs. -/
namespace Sym
open PySem L2 Evl

/-- ds says no more than ds' -/
def le : Env' → Env' → Prop
  | [], [] => True
  | none :: ds, _ :: ds' => le ds ds'
  | some s :: ds, o :: ds' => o = some s ∧ le ds ds'
  | _, _ => False
theorem le.refl : ∀ ds : Env', le ds ds
  | [] => trivial
  | none :: ds => le.refl ds
  | some s :: ds => ⟨rfl, le.refl ds⟩
theorem le.len : ∀ {ds ds' : Env'}, le ds ds' → ds.length = ds'.length
  | [], [], _ => rfl
  | none :: ds, _ :: ds', h => congrArg (· + 1) (le.len (ds := ds) (ds' := ds') h)
  | some s :: ds, o :: ds', h => congrArg (· + 1) (le.len (ds := ds) (ds' := ds') h.2)
  | [], _ :: _, h => h.elim
  | none :: _, [], h => h.elim
  | some _ :: _, [], h => h.elim
theorem le.get : ∀ {ds ds' : Env'} {i : Nat} {s : S}, le ds ds' → ds[i]? = some (some s) → ds'[i]? = some (some s)
  | [], [], _, _, _, e => by simp at e
  | none :: ds, _ :: ds', 0, s, h, e => by simp at e
  | none :: ds, _ :: ds', i + 1, s, h, e => by
    have q := le.get (ds := ds) (ds' := ds') (i := i) (s := s) h (by simpa using e)
    simpa using q
  | some s' :: ds, o :: ds', 0, s, h, e => by
    have e' : s' = s := by simpa using e
    rw [h.1, e'] <;> rfl
  | some s' :: ds, o :: ds', i + 1, s, h, e => by
    have q := le.get (ds := ds) (ds' := ds') (i := i) (s := s) h.2 (by simpa using e)
    simpa using q
  | [], _ :: _, _, _, h, _ => h.elim
  | none :: _, [], _, _, h, _ => h.elim
  | some _ :: _, [], _, _, h, _ => h.elim
theorem Sd.le {K : PySem.W.Frag} {F0 H0 F H : Hp} {σ : L2.St} {ds ds' : Env'} (l : le ds' ds) (h : Sd K F0 H0 F H σ ds) : Sd K F0 H0 F H σ ds' := h.less l.len fun _ _ e => l.get e

/-- what is wanted behind a statement -/
structure Post where
  nx : Env' → Prop
  rt : D → Prop
  bk : Env' → Prop
  ct : Env' → Prop
  xe : Addr → List (Str × D) → Prop

section
variable (K : PySem.W.Frag) (E : XK)
/-- F: the frozen part where the statement begins; it only grows -/
structure Want (F0 H0 F : Hp) (P : Post) (Dn : Ends) : Prop where
  nx : ∀ ds F' H σ, P.nx ds → Sd K F0 H0 F' H σ ds → Ex F F' → Dn.nx σ H
  rt : ∀ v d F' H, P.rt d → Grow F0 H0 F' H → Rp K F' d v → Dn.rt v H
  bk : ∀ ds F' H σ, P.bk ds → Sd K F0 H0 F' H σ ds → Ex F F' → Dn.bk σ H
  ct : ∀ ds F' H σ, P.ct ds → Sd K F0 H0 F' H σ ds → Ex F F' → Dn.ct σ H
  xe : ∀ C fs dx gs F' H, P.xe C fs → Grow F0 H0 F' H → H dx = some (.xd gs) → Kvs K F' fs gs → E (.ref C) (some dx) H
def Run (ts : TS) (ds : Env') (P : Post) : Prop := ∀ F0 H0 F H σ (Dn : Ends), Sd K F0 H0 F H σ ds → Want K E F0 H0 F P Dn → ts Dn σ H
/-- a target's assignment -/
def EvG (g : TG) (d : D) (ds ds' : Env') : Prop := ∀ F0 H0 F H σ v, Sd K F0 H0 F H σ ds → Rp K F d v → ∀ Q : L2.St → Hp → Prop, (∀ σ', Sd K F0 H0 F H σ' ds' → Q σ' H) → g v σ H Q
/-- what is walked -/
def EvI (ti : TI) (ds : Env') (items : List D) : Prop := ∀ F0 H0 F H σ, Sd K F0 H0 F H σ ds → ∀ R : It → Hp → Prop,
  (∀ J F1 H1 (G : Hp → Prop) (Y : Nat → Hp → V → Hp → Prop), Grow F H F1 H1 → Walk J items.length G Y → (∀ F' H', Ex F1 F' → Ex F' H' → G H') →
    (∀ i x F' H' H'' d, Ex F1 F' → Ex F' H' → items[i]? = some d → Y i H' x H'' → ∃ F'', Grow F' H' F'' H'' ∧ Rp K F'' d x) → R J H1) → ti σ H R
end
theorem Want.after {K : PySem.W.Frag} {E : XK} {F0 H0 F F1 : Hp} {P : Post} {Dn : Ends} (W : Want K E F0 H0 F P Dn) (e : Ex F F1) : Want K E F0 H0 F1 P Dn :=
  ⟨fun ds F' H σ p s x => W.nx ds F' H σ p s (e.trans x), W.rt, fun ds F' H σ p s x => W.bk ds F' H σ p s (e.trans x), fun ds F' H σ p s x => W.ct ds F' H σ p s (e.trans x), W.xe⟩
section
variable {K : PySem.W.Frag} {E : XK} {ds ds' : Env'} {te ta tb tc : TE} {x y z d : D} {t u : TT} {tr : TA} {xs : List D} {b c : Bool} {tu tw tz : TS} {P P' : Post} {g : TG} {ti : TI}

theorem Run.le (l : le ds' ds) (h : Run K E tu ds' P) : Run K E tu ds P := fun F0 H0 F H σ Dn S W => h F0 H0 F H σ Dn (S.le l) W
theorem Ev.le (l : Sym.le ds' ds) (h : Ev K te ds' d) : Ev K te ds d := fun F0 H0 F H σ S Q q => h F0 H0 F H σ (S.le l) Q q
theorem EvT.le (l : Sym.le ds' ds) (h : EvT K t ds' b) : EvT K t ds b := fun F0 H0 F H σ S Q q => h F0 H0 F H σ (S.le l) Q q
theorem EvG.le {ds0 : Env'} (l : Sym.le ds' ds) (h : EvG K g d ds' ds0) : EvG K g d ds ds0 := fun F0 H0 F H σ v S r Q q => h F0 H0 F H σ v (S.le l) r Q q
theorem Run.imp (h : Run K E tu ds P) (i1 : ∀ ds, P.nx ds → P'.nx ds) (i2 : ∀ d, P.rt d → P'.rt d) (i3 : ∀ ds, P.bk ds → P'.bk ds) (i4 : ∀ ds, P.ct ds → P'.ct ds) (i5 : ∀ C fs, P.xe C fs → P'.xe C fs) : Run K E tu ds P' :=
  fun F0 H0 F H σ Dn S W => h F0 H0 F H σ Dn S ⟨fun ds F H σ p => W.nx ds F H σ (i1 _ p), fun v d F H p => W.rt v d F H (i2 _ p), fun ds F H σ p => W.bk ds F H σ (i3 _ p), fun ds F H σ p => W.ct ds F H σ (i4 _ p), fun C fs dx gs F H p => W.xe C fs dx gs F H (i5 _ _ p)⟩
theorem run_seq (h : Run K E tu ds { P with nx := fun ds' => Run K E tz ds' P }) : Run K E (tSeq tu tz) ds P := fun F0 H0 F H σ Dn S W =>
  h F0 H0 F H σ { Dn with nx := tz Dn } S ⟨fun ds F H σ p s e => p F0 H0 F H σ Dn s (W.after e), W.rt, W.bk, W.ct, W.xe⟩
theorem run_next (h : P.nx ds) : Run K E tNext ds P := fun F0 H0 F H σ Dn S W => W.nx _ _ _ _ h S (Ex.refl F)
theorem run_break (h : P.bk ds) : Run K E tBreak ds P := fun F0 H0 F H σ Dn S W => W.bk _ _ _ _ h S (Ex.refl F)
theorem run_cont (h : P.ct ds) : Run K E tCont ds P := fun F0 H0 F H σ Dn S W => W.ct _ _ _ _ h S (Ex.refl F)
theorem run_asg {i : Nat} (h : Ev K te ds d) (k : P.nx (ds.set i (some (.im d)))) : Run K E (tAsg te (gName i)) ds P := fun F0 H0 F H σ Dn S W =>
  h F0 H0 F H σ S _ fun v F1 H1 g1 r1 => W.nx _ _ _ _ k ((S.grow g1).set r1) g1.ff
theorem q_asg {i : Nat} (h : Ev K te ds d) (k : Run K E tz (ds.set i (some (.im d))) P) : Run K E (tSeq (tAsg te (gName i)) tz) ds P := run_seq (run_asg h k)
theorem run_asgG (h : Ev K te ds d) (hg : EvG K g d ds ds') (k : P.nx ds') : Run K E (tAsg te g) ds P := fun F0 H0 F H σ Dn S W =>
  h F0 H0 F H σ S _ fun v F1 H1 g1 r1 => hg F0 H0 F1 H1 σ v (S.grow g1) r1 _ fun σ' S' => W.nx _ _ _ _ k S' g1.ff
theorem run_ret (h : Ev K te ds d) (k : P.rt d) : Run K E (tRet te) ds P := fun F0 H0 F H σ Dn S W =>
  h F0 H0 F H σ S _ fun v F1 H1 g1 r1 => W.rt v d F1 H1 k (S.gr.trans g1) r1
theorem run_retN (k : P.rt .non) : Run K E tRetN ds P := fun F0 H0 F H σ Dn S W => W.rt .non .non F H k S.gr rfl
theorem run_drop (h : Ev K te ds d) (k : P.nx ds) : Run K E (tDrop te) ds P := fun F0 H0 F H σ Dn S W =>
  h F0 H0 F H σ S _ fun v F1 H1 g1 r1 => W.nx _ _ _ _ k (S.grow g1) g1.ff
theorem run_if (h : EvT K t ds b) (h1 : b = true → Run K E tu ds P) (h2 : b = false → Run K E tw ds P) : Run K E (tIfS t tu tw) ds P := fun F0 H0 F H σ Dn S W =>
  h F0 H0 F H σ S _ fun F1 H1 g1 => by
    cases b with
    | true =>
      show tu Dn σ H1
      exact h1 rfl F0 H0 F1 H1 σ Dn (S.grow g1) (W.after g1.ff)
    | false =>
      show tw Dn σ H1
      exact h2 rfl F0 H0 F1 H1 σ Dn (S.grow g1) (W.after g1.ff)
theorem q_if (h : EvT K t ds b) (h1 : b = true → Run K E tu ds { P with nx := fun ds' => Run K E tz ds' P }) (h2 : b = false → Run K E tw ds { P with nx := fun ds' => Run K E tz ds' P }) : Run K E (tSeq (tIfS t tu tw) tz) ds P :=
  run_seq (run_if h h1 h2)
theorem q_when (h : EvT K t ds b) (h1 : b = true → Run K E tu ds { P with nx := fun ds' => Run K E tz ds' P }) (h2 : b = false → Run K E tz ds P) : Run K E (tSeq (tIfS t tu tNext) tz) ds P :=
  run_seq (run_if h h1 fun hb => run_next (h2 hb))
/-- op= on a name -/
theorem run_aug {i : Nat} {ip : V → V → Hp → VK → Prop} {w : D} (hx : ds[i]? = some (some (.im x))) (h : Ev K te ds y) (ho : Op2 K ip x y w) (k : P.nx (ds.set i (some (.im w)))) : Run K E (tAug i te ip) ds P := fun F0 H0 F H σ Dn S W => by
  obtain ⟨v, h1, h2⟩ := S.at' i _ hx
  exact ⟨v, h1, h F0 H0 F H σ S _ fun v2 F1 H1 g1 r1 => ho F1 H1 v v2 g1.fh (Rp.mono g1.ff _ _ h2) r1 _ fun w' F2 H2 g2 r2 => W.nx _ _ _ _ k ((S.grow (g1.trans g2)).set r2) (g1.trans g2).ff⟩

/-! ### lists of the def's own -/
theorem sok_ne {F0 H0 F H : Hp} {σ : L2.St} {s : S} {v : V} {a : Addr} {o : HO} (h : SOk K H0 F H s v) (m : s.mut = true) (ha : v = .ref a) : H a ≠ none := by
  cases s with
  | im d => cases m
  | ml xs => obtain ⟨b, vs, h1, h2, h3, h4, h5⟩ := h; rw [ha] at h1; cases h1; rw [h4]; exact fun z => nomatch z
  | mk xs => obtain ⟨b, vs, h1, h2, h3, h4, h5⟩ := h; rw [ha] at h1; cases h1; rw [h4]; exact fun z => nomatch z
  | mn _ _ xs => obtain ⟨b, vs, h1, h2, h3, h4, h5⟩ := h; rw [ha] at h1; cases h1; rw [h4]; exact fun z => nomatch z
/-- a new object that will change: laid into H alone -/
theorem grow_new {F H : Hp} {p : Addr} {o : HO} (e : Ex F H) (hp : H p = none) : Grow F H F (upd H p o) := ⟨Ex.refl F, Ex.new hp, e.trans (Ex.new hp), fun _ _ h _ _ => h⟩
theorem Sd.newM {F0 H0 F H : Hp} {σ : L2.St} {i : Nat} {s : S} {p : Addr} {o : HO} (S' : Sd K F0 H0 F H σ ds) (hp : H p = none) (r : SOk K H0 F (upd H p o) s (.ref p)) : Sd K F0 H0 F (upd H p o) (σ.set i (some (.ref p))) (ds.set i (some s)) := by
  refine (S'.grow (grow_new S'.fh hp)).setM r fun j t e m _ q => ?_
  obtain ⟨v, h1, h2⟩ := S'.at' j t e
  rw [q] at h1
  cases h1
  exact sok_ne (F0 := F0) (o := o) (σ := σ) h2 m rfl hp
/-- the object at a is changed -/
theorem Sd.wr {F0 H0 F H : Hp} {σ : L2.St} {i : Nat} {s s' : S} {a : Addr} {o : HO} (S' : Sd K F0 H0 F H σ ds) (hi : ds[i]? = some (some s)) (m : s.mut = true) (hv : σ[i]? = some (some (.ref a))) (hF : F a = none) (hH0 : H0 a = none)
    (r : SOk K H0 F (upd H a o) s' (.ref a)) (m' : s'.mut = true) : Sd K F0 H0 F (upd H a o) σ (ds.set i (some s')) := by
  have hil : i < ds.length := (List.getElem?_eq_some_iff.mp hi).1
  refine ⟨⟨S'.gr.ff, S'.gr.hh.mut hH0, S'.fh.mut hF, S'.gr.nw⟩, by simp [S'.len], fun j t e => ?_, fun j k t u b e1 e2 m1 m2 q1 q2 => ?_⟩
  · by_cases hj : i = j
    · subst hj
      rw [List.getElem?_set_self hil] at e
      cases e
      exact ⟨_, hv, r⟩
    · rw [List.getElem?_set_ne hj] at e
      obtain ⟨v, h1, h2⟩ := S'.at' j t e
      refine ⟨v, h1, ?_⟩
      have ne : ∀ {b : Addr}, t.mut = true → v = .ref b → b ≠ a := fun {b} mt ev z => hj (S'.ap i j s t a hi e m mt hv (by rw [h1, ev, z]))
      cases t with
      | im d => exact h2
      | ml ys => obtain ⟨b, vs, p1, p2, p3, p4, p5⟩ := h2; exact ⟨b, vs, p1, p2, p3, by rw [upd_ne (ne rfl p1)]; exact p4, p5⟩
      | mk ys => obtain ⟨b, vs, p1, p2, p3, p4, p5⟩ := h2; exact ⟨b, vs, p1, p2, p3, by rw [upd_ne (ne rfl p1)]; exact p4, p5⟩
      | mn _ _ ys => obtain ⟨b, vs, p1, p2, p3, p4, p5⟩ := h2; exact ⟨b, vs, p1, p2, p3, by rw [upd_ne (ne rfl p1)]; exact p4, p5⟩
  · have back : ∀ {j : Nat} {t : S}, (ds.set i (some s'))[j]? = some (some t) → t.mut = true → ∃ t', ds[j]? = some (some t') ∧ t'.mut = true := fun {j t} e mt => by
      by_cases hj : i = j
      · subst hj
        exact ⟨s, hi, m⟩
      · rw [List.getElem?_set_ne hj] at e
        exact ⟨t, e, mt⟩
    obtain ⟨t', e1', m1'⟩ := back e1 m1
    obtain ⟨u', e2', m2'⟩ := back e2 m2
    exact S'.ap j k t' u' b e1' e2' m1' m2' q1 q2
/-- a changing list becomes data -/
theorem run_freeze (i : Nat) (hi : ds[i]? = some (some (.ml xs))) (h : Run K E tu (ds.set i (some (.im (.lst xs)))) P) : Run K E tu ds P := fun F0 H0 F H σ Dn S W => by
  obtain ⟨v, h1, a, vs, rfl, h0, hF, hH, hr⟩ := S.at' i _ hi
  have hil : i < ds.length := (List.getElem?_eq_some_iff.mp hi).1
  have ff : Ex F (upd F a (.lst vs)) := Ex.new hF
  have up : ∀ b, b ≠ a → upd F a (.lst vs) b = F b := fun b hb => upd_ne hb
  refine h F0 H0 (upd F a (.lst vs)) H σ Dn ⟨⟨S.gr.ff.trans ff, S.gr.hh, fun b o e => ?_, fun b o e1 e2 e3 => ?_⟩, by simp [S.len], fun j t e => ?_, fun j k t u b e1 e2 m1 m2 q1 q2 => ?_⟩ (W.after ff)
  · by_cases hb : b = a
    · subst hb
      rw [upd_same] at e
      cases e
      exact hH
    · rw [up b hb] at e
      exact S.fh b o e
  · by_cases hb : b = a
    · subst hb
      rw [h0] at e2
      cases e2
    · rw [up b hb]
      exact S.gr.nw b o e1 e2 e3
  · by_cases hj : i = j
    · subst hj
      rw [List.getElem?_set_self hil] at e
      cases e
      exact ⟨_, h1, a, vs, rfl, .inl (.inl upd_same), Rps.mono ff _ _ hr⟩
    · rw [List.getElem?_set_ne hj] at e
      obtain ⟨v, p1, p2⟩ := S.at' j t e
      refine ⟨v, p1, ?_⟩
      have ne : ∀ {b : Addr}, t.mut = true → v = .ref b → b ≠ a := fun {b} mt ev z => hj (S.ap i j _ t a hi e rfl mt h1 (by rw [p1, ev, z]))
      cases t with
      | im d => exact Rp.mono ff _ _ p2
      | ml ys => obtain ⟨b, vs, q1, q2, q3, q4, q5⟩ := p2; exact ⟨b, vs, q1, q2, by rw [up b (ne rfl q1)]; exact q3, q4, Rps.mono ff _ _ q5⟩
      | mk ys => obtain ⟨b, vs, q1, q2, q3, q4, q5⟩ := p2; exact ⟨b, vs, q1, q2, by rw [up b (ne rfl q1)]; exact q3, q4, q5.mono ff⟩
      | mn _ _ ys => obtain ⟨b, vs, q1, q2, q3, q4, q5, q6⟩ := p2; exact ⟨b, vs, q1, q2, by rw [up b (ne rfl q1)]; exact q3, q4, q5.mono ff, fun e he => (q6 e he).mono ff⟩
  · have back : ∀ {j : Nat} {t : Sym.S}, (ds.set i (some (.im (.lst xs))))[j]? = some (some t) → t.mut = true → ds[j]? = some (some t) := fun {j t} e mt => by
      by_cases hj : i = j
      · subst hj
        rw [List.getElem?_set_self hil] at e
        cases e
        cases mt
      · rw [List.getElem?_set_ne hj] at e
        exact e
    exact S.ap j k t u b (back e1 m1) (back e2 m2) m1 m2 q1 q2
/-- x = [..], a list that will change -/
theorem run_newL {i : Nat} (ha : EvA K tr ds xs) (hl : xs.length ≤ 16777216) (k : P.nx (ds.set i (some (.ml xs)))) : Run K E (tAsg (tLst tr) (gName i)) ds P := fun F0 H0 F H σ Dn S W =>
  ha F0 H0 F H σ S _ fun us F1 H1 g1 r1 => ⟨sz_of (by rw [← r1.length]; exact hl), fun p hp =>
    W.nx _ _ _ _ k ((S.grow g1).newM hp ⟨p, us, rfl, fresh_back (S.gr.trans g1).hh hp, fresh_back g1.fh hp, upd_same, r1⟩) g1.ff⟩
theorem q_newL {i : Nat} (ha : EvA K tr ds xs) (hl : xs.length ≤ 16777216) (k : Run K E tz (ds.set i (some (.ml xs))) P) : Run K E (tSeq (tAsg (tLst tr) (gName i)) tz) ds P := run_seq (run_newL ha hl k)
/-- xs.append(e) -/
theorem run_append {i : Nat} (hi : ds[i]? = some (some (.ml xs))) (h : Ev K te ds d) (hl : xs.length < 16777216) (k : P.nx (ds.set i (some (.ml (xs ++ [d]))))) : Run K E (tDrop (tBM K "list" rAppend (tVar i) (tCons te tNil))) ds P := fun F0 H0 F H σ Dn S W => by
  obtain ⟨v, h1, a, vs, rfl, h0, hF, hH, hr⟩ := S.at' i _ hi
  refine ⟨_, h1, .inl ⟨rfl, vs, .inl (.inl hH)⟩, h F0 H0 F H σ S _ fun w F1 H1 g1 r1 => ?_⟩
  have hH1 := g1.hh _ _ hH
  have hF1 := none_grow g1 hF hH
  exact ⟨a, vs, w, rfl, rfl, hH1, by rw [sizeLine_eq, ← hr.length]; exact hl, W.nx _ _ _ _ k ((S.grow g1).wr hi rfl h1 hF1 h0 ⟨a, _, rfl, h0, hF1, upd_same, (Rps.mono g1.ff _ _ hr).snoc r1⟩ rfl) g1.ff⟩
/-- xs.pop() -/
theorem run_pop {i : Nat} (hi : ds[i]? = some (some (.ml xs))) (hl : xs ≠ []) (k : P.nx (ds.set i (some (.ml xs.dropLast)))) : Run K E (tDrop (tBM0 K "list" rPop (tVar i))) ds P := fun F0 H0 F H σ Dn S W => by
  obtain ⟨v, h1, a, vs, rfl, h0, hF, hH, hr⟩ := S.at' i _ hi
  have hne : vs.length ≠ 0 := fun z => hl (List.length_eq_zero_iff.mp (by rw [hr.length]; exact z))
  exact ⟨_, h1, .inl ⟨rfl, vs, .inl (.inl hH)⟩, a, vs, vs[vs.length - 1]'(by omega), rfl, rfl, hH, by rw [List.getElem?_eq_getElem], W.nx _ _ _ _ k (S.wr hi rfl h1 hF h0 ⟨a, _, rfl, h0, hF, upd_same, hr.unsnoc⟩ rfl) (Ex.refl F)⟩
/-- a changing list is read as it stands: for what is evaluated at once (len, an item, a slice, a copy) -/
def OpL1 (K : PySem.W.Frag) (r : V → Hp → VK → Prop) (xs : List D) (z : D) : Prop := ∀ F H a vs, Ex F H → H a = some (.lst vs) → Rps K F xs vs → ∀ Q : VK, (∀ w F' H', Grow F H F' H' → Rp K F' z w → Q w H') → r (.ref a) H Q
theorem ev_mlen {i : Nat} (hi : ds[i]? = some (some (.ml xs))) {r : List V → Hp → VK → Prop} (hr : OpL1 K (fun v H Q => r [v] H Q) xs z) : Ev K (tCB r (tCons (tVar i) tNil)) ds z := fun F0 H0 F H σ S Q q => by
  obtain ⟨v, h1, a, vs, rfl, h0, hF, hH, h5⟩ := S.at' i _ hi
  exact ⟨_, h1, hr F H a vs S.fh hH h5 Q fun w F' H' g r => q w F' H' g r⟩
/-- return xs, xs a list of the def's own -/
theorem run_retL {i : Nat} (hi : ds[i]? = some (some (.ml xs))) (k : P.rt (.lst xs)) : Run K E (tRet (tVar i)) ds P :=
  run_freeze i hi (run_ret (ev_var (List.getElem?_set_self (List.getElem?_eq_some_iff.mp hi).1)) k)

/-! ### targets -/
theorem eg_name {i : Nat} : EvG K (gName i) d ds (ds.set i (some (.im d))) := fun F0 H0 F H σ v S r Q q => q _ (S.set r)
theorem eg_tup2 {i j : Nat} : EvG K (gTup K 2 (gCons (gName i) (gCons (gName j) gNil))) (.tup [x, y]) ds ((ds.set i (some (.im x))).set j (some (.im y))) := fun F0 H0 F H σ v S r Q q => by
  obtain ⟨a, vs, rfl, h2, u, r', rfl, h3, w, r'', rfl, h4, h5⟩ := r
  have e : r'' = [] := h5
  subst e
  exact ⟨a, _, rfl, ex_t S.fh h2, rfl, u, _, rfl, w, _, rfl, rfl, q _ ((S.set h3).set h4)⟩

/-! ### for -/
theorem run_for {α : Type} {enc : α → D} {as : List α} (st : List α → Env') (I : List α → Prop) (hi : EvI K ti ds (as.map enc)) (h0 : le (st []) ds) (i0 : I [])
    (hs : ∀ pre a post, as = pre ++ a :: post → I pre → ∃ ds2, EvG K g (enc a) (st pre) ds2 ∧ Run K E tu ds2 { P with nx := fun ds' => le (st (pre ++ [a])) ds' ∧ I (pre ++ [a]), ct := fun ds' => le (st (pre ++ [a])) ds' ∧ I (pre ++ [a]), bk := P.nx })
    (hd : I as → P.nx (st as)) : Run K E (tFor ti g tu) ds P := fun F0 H0 F H σ Dn S W => by
  refine hi F0 H0 F H σ S _ fun J F1 H1 G Y g1 wk hG hY => ?_
  have hlen : (as.map enc).length = as.length := List.length_map ..
  refine for_it wk (fun i σ' H' => ∃ F', Sd K F0 H0 F' H' σ' (st (as.take i)) ∧ I (as.take i) ∧ Ex F1 F') ⟨F1, (S.grow g1).le (by simpa using h0), by simpa using i0, Ex.refl F1⟩
    (fun i σ' H' _ ⟨F', S', _, e⟩ => hG F' H' e S'.fh) ?_ ?_
  · rintro i v σ' H' H'' hil ⟨F', S', hI, e⟩ y
    rw [hlen] at hil
    obtain ⟨F'', g2, r2⟩ := hY i v F' H' H'' (enc as[i]) e S'.fh (by rw [List.getElem?_map, List.getElem?_eq_getElem hil] <;> rfl) y
    have hsplit : as = as.take i ++ as[i] :: as.drop (i + 1) := by rw [List.getElem_cons_drop, List.take_append_drop]
    have htake : as.take (i + 1) = as.take i ++ [as[i]] := by rw [List.take_append_getElem]
    obtain ⟨ds2, hg, hr⟩ := hs (as.take i) as[i] (as.drop (i + 1)) hsplit hI
    refine hg F0 H0 F'' H'' σ' v (S'.grow g2) r2 _ fun σ2 S2 => ?_
    have hF1 : Ex F1 F'' := e.trans g2.ff
    have again : ∀ ds F3 H3 σ3, le (st (as.take i ++ [as[i]])) ds ∧ I (as.take i ++ [as[i]]) → Sd K F0 H0 F3 H3 σ3 ds → Ex F'' F3 → ∃ F', Sd K F0 H0 F' H3 σ3 (st (as.take (i + 1))) ∧ I (as.take (i + 1)) ∧ Ex F1 F' := fun ds F3 H3 σ3 p s3 e3 =>
      ⟨F3, by rw [htake]; exact s3.le p.1, by rw [htake]; exact p.2, hF1.trans e3⟩
    exact hr F0 H0 F'' H'' σ2 _ S2 ⟨again, W.rt, fun ds F3 H3 σ3 p s3 e3 => W.nx ds F3 H3 σ3 p s3 ((g1.ff.trans hF1).trans e3), again, W.xe⟩
  · rintro σ' H' ⟨F', S', hI, e⟩
    rw [hlen, List.take_length] at S' hI
    exact W.nx _ _ _ _ (hd hI) S' (g1.ff.trans e)
end
end Sym

/-! Sym3: comprehensions by data; defs and their calls. -/
namespace Sym
open PySem L2 Evl

theorem Grow.other {F H F' H' : Hp} {a : Addr} {o : HO} (g : Grow F H F' H') (h : H a = none) (hF : F' a = none) : Grow F H F' (upd H' a o) :=
  ⟨g.ff, g.hh.mut h, g.fh.mut hF, g.nw⟩
/-- what was new to H is laid into F' -/
theorem Grow.lay {F H F' H' : Hp} {a : Addr} {o : HO} (g : Grow F H F' H') (h : H a = none) (hF : F' a = none) (hH : H' a = some o) : Grow F H (upd F' a o) H' := by
  refine ⟨g.ff.trans (Ex.new hF), g.hh, fun b u e => ?_, fun b u e1 e2 e3 => ?_⟩
  · by_cases hb : b = a
    · subst hb
      rw [upd_same] at e
      cases e
      exact hH
    · rw [upd_ne hb] at e
      exact g.fh b u e
  · have hb : b ≠ a := fun z => by subst z; rw [h] at e2; cases e2
    rw [upd_ne hb]
    exact g.nw b u e1 e2 e3

def wipeD (ds : Env') : List Nat → Env'
  | [] => ds
  | v :: vs => (wipeD ds vs).set v none
theorem wipeD_length (ds : Env') : ∀ vs : List Nat, (wipeD ds vs).length = ds.length
  | [] => rfl
  | v :: vs => by unfold wipeD; rw [List.length_set, wipeD_length ds vs]
theorem wipeD_some {ds : Env'} {i : Nat} {x : S} : ∀ {vs : List Nat}, (wipeD ds vs)[i]? = some (some x) → ds[i]? = some (some x) ∧ i ∉ vs
  | [], h => ⟨h, by simp⟩
  | v :: vs, h => by
    unfold wipeD at h
    by_cases hi : v = i
    · subst hi
      by_cases hv : v < (wipeD ds vs).length
      · rw [List.getElem?_set_self hv] at h; cases h
      · rw [List.getElem?_eq_none (by simpa using hv)] at h; cases h
    · rw [List.getElem?_set_ne hi] at h
      obtain ⟨h1, h2⟩ := wipeD_some h
      exact ⟨h1, by simp only [List.mem_cons, not_or]; exact ⟨fun e => hi e.symm, h2⟩⟩
theorem wipe_keep {σ : L2.St} {i : Nat} : ∀ {vs : List Nat}, i ∉ vs → (wipe σ vs)[i]? = σ[i]?
  | [], _ => rfl
  | v :: vs, h => by
    unfold wipe
    simp only [List.mem_cons, not_or] at h
    rw [List.getElem?_set_ne (fun e => h.1 e.symm)]
    exact wipe_keep h.2
theorem wipe_none {σ : L2.St} {i : Nat} : ∀ {vs : List Nat}, i ∈ vs → i < σ.length → (wipe σ vs)[i]? = some none
  | v :: vs, h, hl => by
    unfold wipe
    by_cases hv : v = i
    · subst hv
      rw [List.getElem?_set_self (by rw [wipe_length]; exact hl)]
    · rw [List.getElem?_set_ne hv]
      rcases List.mem_cons.mp h with e | e
      · exact absurd e.symm hv
      · exact wipe_none e hl
theorem wipe_ext {σ τ : L2.St} {vs : List Nat} (hl : σ.length = τ.length) (h : ∀ i, i ∉ vs → σ[i]? = τ[i]?) : wipe σ vs = wipe τ vs := by
  apply List.ext_getElem?
  intro i
  by_cases hi : i ∈ vs
  · by_cases hs : i < σ.length
    · rw [wipe_none hi hs, wipe_none hi (hl ▸ hs)]
    · rw [List.getElem?_eq_none (by rw [wipe_length]; omega), List.getElem?_eq_none (by rw [wipe_length]; omega)]
  · rw [wipe_keep hi, wipe_keep hi, h i hi]
theorem wipe_wipe {σ : L2.St} {vs : List Nat} : wipe (wipe σ vs) vs = wipe σ vs := wipe_ext (wipe_length _ _) fun i hi => wipe_keep hi
theorem wipe_set {σ : L2.St} {vs : List Nat} {i : Nat} {x : Option V} (hi : i ∈ vs) : wipe (σ.set i x) vs = wipe σ vs :=
  wipe_ext (by simp) fun j hj => List.getElem?_set_ne (fun e => by subst e; exact hj hi)

section
variable {K : PySem.W.Frag} {E : XK} {ds ds' : Env'} {te ta tb tc : TE} {x y z d : D} {t u : TT} {tr : TA} {xs : List D} {b c : Bool} {tu tw tz : TS} {P P' : Post} {g : TG} {ti : TI}
theorem Sd.wipe {F0 H0 F H : Hp} {σ : L2.St} (S : Sd K F0 H0 F H σ ds) (vs : List Nat) : Sd K F0 H0 F H (wipe σ vs) (wipeD ds vs) := by
  refine ⟨S.gr, by rw [wipe_length, wipeD_length, S.len], fun i s e => ?_, fun i j s t a e1 e2 m1 m2 q1 q2 => ?_⟩
  · obtain ⟨e', hi⟩ := wipeD_some e
    obtain ⟨v, h1, h2⟩ := S.at' i s e'
    exact ⟨v, by rw [wipe_keep hi]; exact h1, h2⟩
  · obtain ⟨e1', h1⟩ := wipeD_some e1
    obtain ⟨e2', h2⟩ := wipeD_some e2
    rw [wipe_keep h1] at q1
    rw [wipe_keep h2] at q2
    exact S.ap i j s t a e1' e2' m1 m2 q1 q2
/-- a comprehension's target -/
def EvGw (K : PySem.W.Frag) (g : TG) (vs : List Nat) (d : D) (ds ds' : Env') : Prop := ∀ F0 H0 F H σ v, Sd K F0 H0 F H (wipe σ vs) ds → Rp K F d v → ∀ Q : L2.St → Hp → Prop, (∀ σ', wipe σ' vs = wipe σ vs → Sd K F0 H0 F H σ' ds' → Q σ' H) → g v (wipe σ vs) H Q
theorem gw_name {i : Nat} {vs : List Nat} (hi : i ∈ vs := by decide) : EvGw K (gName i) vs d ds (ds.set i (some (.im d))) := fun F0 H0 F H σ v S r Q q => q _ (by rw [wipe_set hi, wipe_wipe]) (S.set r)
theorem gw_tup2 {i j : Nat} {vs : List Nat} (hi : i ∈ vs := by decide) (hj : j ∈ vs := by decide) : EvGw K (gTup K 2 (gCons (gName i) (gCons (gName j) gNil))) vs (.tup [x, y]) ds ((ds.set i (some (.im x))).set j (some (.im y))) := fun F0 H0 F H σ v S r Q q => by
  obtain ⟨a, vs, rfl, h2, u, r', rfl, h3, w, r'', rfl, h4, h5⟩ := r
  have e : r'' = [] := h5
  subst e
  exact ⟨a, _, rfl, ex_t S.fh h2, rfl, u, _, rfl, w, _, rfl, rfl, q _ (by rw [wipe_set hj, wipe_set hi, wipe_wipe]) ((S.set h3).set h4)⟩
theorem ev_lc {α : Type} {enc : α → D} {as : List α} {vs : List Nat} (p : α → Bool) (e : α → D) (hi : EvI K ti ds (as.map enc)) (hl : as.length ≤ 16777216)
    (hs : ∀ pre a post, as = pre ++ a :: post → ∃ ds2, EvGw K g vs (enc a) (wipeD ds vs) ds2 ∧ EvT K t ds2 (p a) ∧ (p a = true → Ev K te ds2 (e a))) : Ev K (tLc ti g t te vs) ds (.lst ((as.filter p).map e)) := fun F0 H0 F H σ S Q q => by
  refine hi F0 H0 F H σ S _ fun J F1 H1 G Y g1 wk hG hY Dl hD => ?_
  have hlen : (as.map enc).length = as.length := List.length_map ..
  have hDH : H Dl = none := fresh_back g1.hh hD
  have hDF : F1 Dl = none := fresh_back g1.fh hD
  refine lc_it wk (fun i H' => ∃ F' acc, Grow F H F' H' ∧ F' Dl = none ∧ H' Dl = some (.lst acc) ∧ Rps K F' (((as.take i).filter p).map e) acc ∧ Ex F1 F')
    ⟨F1, [], g1.other hDH hDF, hDF, upd_same, Rps.nil, Ex.refl F1⟩ (fun i H' _ ⟨F', acc, g, _, _, _, ex⟩ => hG F' H' ex g.fh) ?_ ?_
  · rintro i v H' H'' hil ⟨F', acc, gr, f0, h0, r0, ex⟩ y
    rw [hlen] at hil
    obtain ⟨F'', g2, r2⟩ := hY i v F' H' H'' (enc as[i]) ex gr.fh (by rw [List.getElem?_map, List.getElem?_eq_getElem hil] <;> rfl) y
    have hsplit : as = as.take i ++ as[i] :: as.drop (i + 1) := by rw [List.getElem_cons_drop, List.take_append_drop]
    have htake : as.take (i + 1) = as.take i ++ [as[i]] := by rw [List.take_append_getElem]
    obtain ⟨ds2, hg, ht, he⟩ := hs (as.take i) as[i] (as.drop (i + 1)) hsplit
    refine hg F0 H0 F'' H'' σ v ((S.grow (gr.trans g2)).wipe vs) r2 _ fun σ2 hw S2 => ⟨hw, ?_⟩
    refine ht F0 H0 F'' H'' σ2 S2 _ fun F3 H3 g3 => ?_
    have hz : acc.length < sizeLine := by
      have e1 := r0.length
      rw [List.length_map] at e1
      have e2 := List.length_filter_le p (as.take i)
      rw [List.length_take] at e2
      rw [sizeLine_eq]
      omega
    cases hp : p as[i] with
    | true =>
      show te σ2 H3 _
      refine he hp F0 H0 F3 H3 σ2 (S2.grow g3) _ fun w F4 H4 g4 r4 => ?_
      have g34 := (g2.trans g3).trans g4
      have hf : F4 Dl = none := none_grow g34 f0 h0
      refine ⟨acc, g34.hh _ _ h0, hz, F4, acc ++ [w], (gr.trans g34).other hDH hf, hf, upd_same, ?_, ex.trans g34.ff⟩
      rw [htake, List.filter_append, List.map_append, List.filter_cons, if_pos hp]
      exact (Rps.mono g34.ff _ _ r0).snoc r4
    | false =>
      have g23 := g2.trans g3
      refine ⟨F3, acc, gr.trans g23, none_grow g23 f0 h0, g23.hh _ _ h0, ?_, ex.trans g23.ff⟩
      rw [htake, List.filter_append, List.map_append, List.filter_cons, if_neg (by rw [hp]; decide)]
      show Rps K F3 (_ ++ []) acc
      rw [List.append_nil]
      exact Rps.mono g23.ff _ _ r0
  · rintro H' ⟨F', acc, gr, f0, h0, r0, ex⟩
    rw [hlen, List.take_length] at r0
    exact q _ _ _ (gr.lay hDH f0 h0) ⟨Dl, acc, rfl, .inl (.inl upd_same), Rps.mono (Ex.new f0) _ _ r0⟩
theorem et_yes : EvT K tYes ds true := fun F0 H0 F H σ S Q q => q F H (.refl S.fh)
/-- without ifs -/
theorem ev_lc0 {α : Type} {enc : α → D} {as : List α} {vs : List Nat} (e : α → D) (hi : EvI K ti ds (as.map enc)) (hl : as.length ≤ 16777216)
    (hs : ∀ pre a post, as = pre ++ a :: post → ∃ ds2, EvGw K g vs (enc a) (wipeD ds vs) ds2 ∧ Ev K te ds2 (e a)) : Ev K (tLc ti g tYes te vs) ds (.lst (as.map e)) := by
  have h := ev_lc (t := tYes) (vs := vs) (fun _ => true) e hi hl fun pre a post h => let ⟨ds2, h1, h2⟩ := hs pre a post h; ⟨ds2, h1, et_yes, fun _ => h2⟩
  rw [List.filter_eq_self.mpr fun _ _ => rfl] at h
  exact h

/-! ### defs -/
inductive Out where
  | ret (d : D)
  | exc (C : Addr) (fs : List (Str × D))
/-- the promise: from x by enc, where pre holds, comes f x -/
def spF (K : PySem.W.Frag) {α : Type} (enc : α → List D) (pre : α → Prop) (f : α → Out) : Sp := fun vs H Q E => ∃ F x, Ex F H ∧ Rps K F (enc x) vs ∧ pre x ∧
  (∀ d, f x = .ret d → ∀ v F' H', Grow F H F' H' → Rp K F' d v → Q v H') ∧
  (∀ C fs, f x = .exc C fs → ∀ dx gs F' H', Grow F H F' H' → H' dx = some (.xd gs) → Kvs K F' fs gs → E (.ref C) (some dx) H')
section
variable {α : Type} {enc : α → List D} {pre : α → Prop} {f : α → Out}
theorem ev_call (a : α) {E' : XK} (ha : EvA K tr ds (enc a)) (hp : pre a) (hf : f a = .ret d) : Ev K (tCall (spF K enc pre f) [] E' tr) ds d := fun F0 H0 F H σ S Q q =>
  ha F0 H0 F H σ S _ fun vs F1 H1 g1 r1 => ⟨F1, a, g1.fh, by rw [List.append_nil]; exact r1, hp, fun d' e v F' H' g r => by
    rw [hf] at e
    cases e
    exact q v F' H' (g1.trans g) r, fun C fs e => by
    rw [hf] at e
    cases e⟩
/-- defaults behind the arguments -/
theorem ev_callD (a : α) {E' : XK} {dvs : List V} {ys : List D} (ha : EvA K tr ds xs) (hd : ∀ F, Rps K F ys dvs) (he : enc a = xs ++ ys) (hp : pre a) (hf : f a = .ret d) : Ev K (tCall (spF K enc pre f) dvs E' tr) ds d := fun F0 H0 F H σ S Q q =>
  ha F0 H0 F H σ S _ fun vs F1 H1 g1 r1 => ⟨F1, a, g1.fh, by rw [he]; exact r1.append (hd F1), hp, fun d' e v F' H' g r => by
    rw [hf] at e
    cases e
    exact q v F' H' (g1.trans g) r, fun C fs e => by
    rw [hf] at e
    cases e⟩
/-- a call that may raise, as the whole of a statement -/
theorem run_dropX (a : α) (ha : EvA K tr ds (enc a)) (hp : pre a) (h1 : ∀ d, f a = .ret d → P.nx ds) (h2 : ∀ C fs, f a = .exc C fs → P.xe C fs) : Run K E (tDrop (tCall (spF K enc pre f) [] E tr)) ds P := fun F0 H0 F H σ Dn S W =>
  ha F0 H0 F H σ S _ fun vs F1 H1 g1 r1 => ⟨F1, a, g1.fh, by rw [List.append_nil]; exact r1, hp, fun d' e v F' H' g r => W.nx _ _ _ _ (h1 _ e) (S.grow (g1.trans g)) (g1.trans g).ff,
    fun C fs e dx gs F' H' g hx r => W.xe C fs dx gs F' H' (h2 _ _ e) ((S.gr.trans g1).trans g) hx r⟩
theorem run_asgX (a : α) {i : Nat} (ha : EvA K tr ds (enc a)) (hp : pre a) (h1 : ∀ d, f a = .ret d → P.nx (ds.set i (some (.im d)))) (h2 : ∀ C fs, f a = .exc C fs → P.xe C fs) : Run K E (tAsg (tCall (spF K enc pre f) [] E tr) (gName i)) ds P := fun F0 H0 F H σ Dn S W =>
  ha F0 H0 F H σ S _ fun vs F1 H1 g1 r1 => ⟨F1, a, g1.fh, by rw [List.append_nil]; exact r1, hp, fun d' e v F' H' g r => W.nx _ _ _ _ (h1 _ e) ((S.grow (g1.trans g)).set r) (g1.trans g).ff,
    fun C fs e dx gs F' H' g hx r => W.xe C fs dx gs F' H' (h2 _ _ e) ((S.gr.trans g1).trans g) hx r⟩
theorem run_retX (a : α) (ha : EvA K tr ds (enc a)) (hp : pre a) (h1 : ∀ d, f a = .ret d → P.rt d) (h2 : ∀ C fs, f a = .exc C fs → P.xe C fs) : Run K E (tRet (tCall (spF K enc pre f) [] E tr)) ds P := fun F0 H0 F H σ Dn S W =>
  ha F0 H0 F H σ S _ fun vs F1 H1 g1 r1 => ⟨F1, a, g1.fh, by rw [List.append_nil]; exact r1, hp, fun d' e v F' H' g r => W.rt v d' F' H' (h1 _ e) ((S.gr.trans g1).trans g) r,
    fun C fs e dx gs F' H' g hx r => W.xe C fs dx gs F' H' (h2 _ _ e) ((S.gr.trans g1).trans g) hx r⟩
end
end

def startE (N : List Str) (ds : List D) : Env' := ds.map (fun d => some (.im d)) ++ List.replicate (N.length - ds.length) none
/-- what a def's run is to reach -/
def Ends' (o : Out) : Post := ⟨fun _ => o = .ret .non, fun d => o = .ret d, fun _ => False, fun _ => False, fun C fs => o = .exc C fs⟩
theorem sd_start {K : PySem.W.Frag} {F H : Hp} {N : List Str} {ds : List D} {vs : List V} (e : Ex F H) (r : Rps K F ds vs) : Sd K F H F H (L2.start N vs) (startE N ds) := by
  have hl := r.length
  have key : ∀ (i : Nat) (s : S), (startE N ds)[i]? = some (some s) → ∃ d v, s = .im d ∧ (L2.start N vs)[i]? = some (some v) ∧ Rp K F d v := fun i s h => by
    unfold startE at h
    by_cases hi : i < ds.length
    · rw [List.getElem?_append_left (by simpa using hi), List.getElem?_map, List.getElem?_eq_getElem hi] at h
      obtain ⟨v, h1, h2⟩ := r.get (i := i) (d := ds[i]) (by simp [hi])
      have e' : s = .im ds[i] := by
        have q : some (some (S.im ds[i])) = some (some s) := h
        cases q
        rfl
      refine ⟨ds[i], v, e', ?_, h2⟩
      unfold L2.start
      rw [List.getElem?_append_left (by simp; omega), List.getElem?_map, h1] <;> rfl
    · rw [List.getElem?_append_right (by simpa using hi), List.getElem?_replicate] at h
      split at h <;> cases h
  refine ⟨.refl e, ?_, fun i s h => ?_, fun i j s t a h1 h2 m1 m2 _ _ => ?_⟩
  · unfold L2.start startE
    simp [hl]
  · obtain ⟨d, v, e1, h1, h2⟩ := key i s h
    rw [e1]
    exact ⟨v, h1, h2⟩
  · obtain ⟨d, v, e1, _⟩ := key i s h1
    rw [e1] at m1
    cases m1
section
variable {P : Program} {w : World} {K : PySem.W.Frag} {mg : Str → Option Value} {base : Heap} {α : Type} {enc : α → List D} {pre : α → Prop} {f' : α → Out} {x qual : Str} {st : Stmt} {f : Addr} {fd : FuncData} {N ps : List Str} {k : Nat}
theorem sp_len (hl : ∀ a : α, (enc a).length = ps.length) : ∀ vs H Q E, spF K enc pre f' vs H Q E → vs.length = ps.length := fun vs H Q E h => by
  obtain ⟨F, a, _, r, _⟩ := h
  rw [← hl a, r.length]
/-- a def that raises nothing -/
theorem def_ok (Fn : Fun K x qual st f fd) (SC : FnScope N ps (defScope st)) (hl : ∀ a : α, (enc a).length = ps.length) {t : TS}
    (hd : ∀ (cdv : Value) (A : Around) (outer : List Env) (s : Shared) (H : Hp) (E : XK), Room k (A.deeper (PyProof.Rows.envOfC qual (defScope st) s.heap.objs.size f cdv)) → PSs (cxOf CX0 P w K mg base N qual (defScope st) f cdv A outer s H E).nox (defBody st) t)
    (hr : ∀ (a : α) (E : XK), pre a → Run K E t (startE N (enc a)) (Ends' (f' a))) : FnOk P w K mg base CX0 (k + 1) f fd ps (spF K enc pre f') := by
  refine Fn.ok SC (sp_len hl) fun cdv A outer s H vs Q E room h => ⟨t, hd cdv A outer s H E room, ?_⟩
  obtain ⟨F, a, ex, r, hp, h1, h2⟩ := h
  refine hr a E hp F H F H (L2.start N vs) _ (sd_start ex r) ⟨fun ds F' H' σ e s _ => h1 _ e .non F' H' s.gr rfl, fun v d F' H' e g r => h1 _ e v F' H' g r, fun _ _ _ _ z => z.elim, fun _ _ _ _ z => z.elim, fun C fs dx gs F' H' e g hx r => h2 C fs e dx gs F' H' g hx r⟩
/-- a def that may raise -/
theorem def_okX (Fn : Fun K x qual st f fd) (SC : FnScope N ps (defScope st)) (hl : ∀ a : α, (enc a).length = ps.length) {t : XK → TS}
    (hd : ∀ (cdv : Value) (A : Around) (outer : List Env) (s : Shared) (H : Hp) (E : XK), Room k (A.deeper (PyProof.Rows.envOfC qual (defScope st) s.heap.objs.size f cdv)) → PSs (cxOf (L2.CX P w) P w K mg base N qual (defScope st) f cdv A outer s H E) (defBody st) (t E))
    (hr : ∀ (a : α) (E : XK), pre a → Run K E (t E) (startE N (enc a)) (Ends' (f' a))) : FnOk P w K mg base (L2.CX P w) (k + 1) f fd ps (spF K enc pre f') := by
  refine Fn.okX SC (sp_len hl) fun cdv A outer s H vs Q E room h => ⟨t E, hd cdv A outer s H E room, ?_⟩
  obtain ⟨F, a, ex, r, hp, h1, h2⟩ := h
  refine hr a E hp F H F H (L2.start N vs) _ (sd_start ex r) ⟨fun ds F' H' σ e s _ => h1 _ e .non F' H' s.gr rfl, fun v d F' H' e g r => h1 _ e v F' H' g r, fun _ _ _ _ z => z.elim, fun _ _ _ _ z => z.elim, fun C fs dx gs F' H' e g hx r => h2 C fs e dx gs F' H' g hx r⟩
end
end Sym

/-! Sym4: defs that ask for a repr: a promise that is kept where no repr is under way. -/
namespace Sym
open PySem PySem.Spec PyProof.Rows L2 Evl

/-- nothing is being shown -/
def NoRep (A : Around) : Prop := A.guards = some []
structure FnOkG (P : Program) (w : World) (K : PySem.W.Frag) (mg : Str → Option Value) (base : Heap) (CX : CXT) (k : Nat) (f : Addr) (fd : FuncData) (ps : List Str) (sp : Sp) : Prop where
  lenG : ∀ vs H Q E, sp vs H Q E → vs.length = ps.length
  runG : ∀ A outer s H args us vs Q E, NoRep A → Room k A → Env0 P w K mg base A outer s H → BindsTo s fd args (ps.zip us) → Vals vs us → sp vs H Q E → codeAny (model P w) A (.call (.ref f) args) (CR CX outer P w H s Q E) s
theorem _root_.L2.FnOk.toG {P : Program} {w : World} {K : PySem.W.Frag} {mg : Str → Option Value} {base : Heap} {CX : CXT} {k : Nat} {f : Addr} {fd : FuncData} {ps : List Str} {sp : Sp} (F : FnOk P w K mg base CX k f fd ps sp) : FnOkG P w K mg base CX k f fd ps sp :=
  ⟨F.len, fun A outer s H args us vs Q E _ => F.run A outer s H args us vs Q E⟩
section
variable {X : Cx} {CX : CXT} {k : Nat} {f C : Addr} {fd : FuncData} {ps : List Str} {sp : Sp} {dvs : List V} {ds : List Value} {E : XK} {x m : Str} {p pos apos : Pos} {e o : Expr} {es : List Expr} {ta : TE} {t : TA}
theorem run_fnG {pins : List (Addr × Obj)} {σ : L2.St} {H : Hp} {s : Shared} {Q : VK} {us : List Value} {vs : List V} {Xe : XK} (F : FnOkG X.prog X.w X.K X.mg X.base CX k f fd ps sp) (hG : NoRep X.A) (room : Room k X.A) (bn : Binds X.K fd ps ds) (hd : Vals dvs ds)
    (pas : PassesAt CX X σ Xe) (I : Inv X pins σ H s) (r : Vals vs us) (h : sp (vs ++ dvs) H Q Xe) : wpAny (model X.prog X.w) X.A (call (.ref f) us) (EP X pins σ Q) X.xe s := by
  have rr := r.append hd
  have ll : (us ++ ds).length = ps.length := rr.length.symm.trans (F.lenG _ _ _ _ h)
  have go := F.runG X.A X.stack s H ⟨us, []⟩ (us ++ ds) (vs ++ dvs) Q Xe hG room I.env0 (bn s us I.kIn ll) rr h
  refine wpAny_call (codeAny_mono go ?_)
  intro res s' hq
  match res, hq with
  | .error er, hq => exact pas pins H s er s' I hq
  | .ok (.ret u), hq => exact I.after hq
  | .ok .next, hq => exact False.elim hq
  | .ok .brk, hq => exact False.elim hq
  | .ok .cont, hq => exact False.elim hq
theorem pe_callG (F : FnOkG X.prog X.w X.K X.mg X.base CX k f fd ps sp) (hG : NoRep X.A) (room : Room k X.A) (hg : Gl X x) (hm : X.mg x = some (.ref f)) (hk : PySem.W.keepIn X.K (.ref f) = true) (bn : Binds X.K fd ps ds) (hd : Vals dvs ds) (pas : Passes CX X E)
    (ha : PA X (e :: es) t) (hdb : (x == ("__debug__" : Str)) = false := by decide) (h1 : starEach (e :: es) X.env = (false, eval e X.env) :: starEach es X.env := by rfl) (h2 : (backTo pos (starEach es X.env)).any (·.1) = false := by rfl) :
    PE X (.Call (.Name x p) (e :: es) [] pos) (tCall sp dvs E t) := by
  constructor
  intro pins s σ H Q I h
  refine wpAny_Call_Name_kw (ld_glob I hg hm (PySem.W.callWith_K (h₀ := X.base) I.ok.mod.kin hk (thn (ha.run pos pins s σ H _ I h) ?_) h1 h2) hdb)
  rintro us s1 ⟨vs, H1, I1, r, q⟩
  exact ⟨I1.kIn, run_fnG F hG room bn hd (fun pins H s e s' => pas pins _ H s e s') I1 r q⟩
theorem pe_callG0 (F : FnOkG X.prog X.w X.K X.mg X.base CX k f fd ps sp) (hG : NoRep X.A) (room : Room k X.A) (hg : Gl X x) (hm : X.mg x = some (.ref f)) (hk : PySem.W.keepIn X.K (.ref f) = true) (bn : Binds X.K fd ps ds) (hd : Vals dvs ds) (pas : Passes CX X E)
    (hdb : (x == ("__debug__" : Str)) = false := by decide) : PE X (.Call (.Name x p) [] [] pos) (tCall sp dvs E tNil) := by
  constructor
  intro pins s σ H Q I h
  refine wpAny_Call_Name_kw (ld_glob I hg hm (PySem.W.callWith_K0 I.kIn hk ?_) hdb)
  exact run_fnG F hG room bn hd (fun pins H s e s' => pas pins _ H s e s') I .nil h
end
section
variable {P : Program} {w : World} {K : PySem.W.Frag} {mg : Str → Option Value} {base : Heap} {CX : CXT} {x qual : Str} {st : Stmt} {f : Addr} {fd : FuncData} {N ps : List Str} {k : Nat} {sp : Sp}
theorem fn_okG (Fn : Fun K x qual st f fd) (SC : FnScope N ps (defScope st)) (len : ∀ vs H Q E, sp vs H Q E → vs.length = ps.length)
    (body : ∀ (cdv : Value) (A : Around) (outer : List Env) (s : Shared) (H : Hp) (vs : List V) (Q : VK) (E : XK), NoRep A → Room k (A.deeper (PyProof.Rows.envOfC qual (defScope st) s.heap.objs.size f cdv)) → sp vs H Q E →
      ∃ t, PSs (cxOf CX P w K mg base N qual (defScope st) f cdv A outer s H E) (defBody st) t ∧ t { nx := fun _ H' => Q .non H', rt := Q } (L2.start N vs) H) : FnOkG P w K mg base CX (k + 1) f fd ps sp := by
  obtain ⟨oc, od, kV, doc, pm, an, cdv, ct, osl, rfl, found, rec⟩ := Fn.ex
  constructor
  · exact len
  intro A outer s H args us vs Q E hG room env bnd vals want
  have there : ∀ b o, base.get? b = some o → s.heap.get? b = some o := fun b o z => (env.bs b o z).1
  have known : K.In s.heap := env.mod.kin.keeps there
  have kinds : ∀ y ∈ ps.zip us, (defScope st).names.lookup y.1 = some .local ∨ ((defScope st).names.lookup y.1 = some .cell ∧ ((cellsFrom (s.heap.objs.size + 1) (defScope st).names []).lookup y.1).isSome = true) := by
    rintro ⟨n, v⟩ hy
    exact (SC.par n (List.of_mem_zip hy).1).elim .inl fun q => .inr ⟨q, PySem.W.cellsFrom_some _ _ _ (.inl q)⟩
  refine codeAny_call_function room.depth (known _ _ found) rfl SC.co SC.gen rfl (PySem.W.codeRec_of known rec) (bnd _ _ _ _ ?_)
  refine wpAny_newFunctionEnv_cells SC.kind kinds ?_
  rintro env' rfl s1 made
  refine ⟨(env.mod.nolimit.keeps there).keeps made.toInCall.keep, codeAny_func ?_⟩
  obtain ⟨t, der, rd⟩ := body cdv A outer s H vs Q E hG (room.deeper _) want
  have inv := inv_start (CX := CX) (E := E) SC room.hd env (len _ _ _ _ want) vals made
  refine wpAny_mono (der.run [] s1 _ H _ inv rd) ?_ fun _ _ z => z
  intro fl s' hs
  match fl, hs with
  | .ret u, ⟨v, _, H', J, rv, q⟩ => exact ⟨v, H', J.os, J.bare, J.base, J.hok, rv, q⟩
  | .next, ⟨_, H', J, q⟩ => exact ⟨.non, H', J.os, J.bare, J.base, J.hok, rfl, q⟩
  | .brk, ⟨_, _, _, q⟩ => exact False.elim q
  | .cont, ⟨_, _, _, q⟩ => exact False.elim q
end
section
variable {P : Program} {w : World} {K : PySem.W.Frag} {mg : Str → Option Value} {base : Heap} {α : Type} {enc : α → List D} {pre : α → Prop} {f' : α → Out} {x qual : Str} {st : Stmt} {f : Addr} {fd : FuncData} {N ps : List Str} {k : Nat}
theorem def_okG (Fn : Fun K x qual st f fd) (SC : FnScope N ps (defScope st)) (hl : ∀ a : α, (enc a).length = ps.length) {t : TS}
    (hd : ∀ (cdv : Value) (A : Around) (outer : List Env) (s : Shared) (H : Hp) (E : XK), NoRep A → Room k (A.deeper (PyProof.Rows.envOfC qual (defScope st) s.heap.objs.size f cdv)) → PSs (cxOf CX0 P w K mg base N qual (defScope st) f cdv A outer s H E).nox (defBody st) t)
    (hr : ∀ (a : α) (E : XK), pre a → Run K E t (startE N (enc a)) (Ends' (f' a))) : FnOkG P w K mg base CX0 (k + 1) f fd ps (spF K enc pre f') := by
  refine fn_okG Fn SC (sp_len hl) fun cdv A outer s H vs Q E hG room h => ⟨t, (hd cdv A outer s H E hG room).nox, ?_⟩
  obtain ⟨F, a, ex, r, hp, h1, h2⟩ := h
  exact hr a E hp F H F H (L2.start N vs) _ (sd_start ex r) ⟨fun ds F' H' σ e s _ => h1 _ e .non F' H' s.gr rfl, fun v d F' H' e g r => h1 _ e v F' H' g r, fun _ _ _ _ z => z.elim, fun _ _ _ _ z => z.elim, fun C fs dx gs F' H' e g hx r => h2 C fs e dx gs F' H' g hx r⟩
theorem def_okGX (Fn : Fun K x qual st f fd) (SC : FnScope N ps (defScope st)) (hl : ∀ a : α, (enc a).length = ps.length) {t : XK → TS}
    (hd : ∀ (cdv : Value) (A : Around) (outer : List Env) (s : Shared) (H : Hp) (E : XK), NoRep A → Room k (A.deeper (PyProof.Rows.envOfC qual (defScope st) s.heap.objs.size f cdv)) → PSs (cxOf (L2.CX P w) P w K mg base N qual (defScope st) f cdv A outer s H E) (defBody st) (t E))
    (hr : ∀ (a : α) (E : XK), pre a → Run K E (t E) (startE N (enc a)) (Ends' (f' a))) : FnOkG P w K mg base (L2.CX P w) (k + 1) f fd ps (spF K enc pre f') := by
  refine fn_okG Fn SC (sp_len hl) fun cdv A outer s H vs Q E hG room h => ⟨t E, hd cdv A outer s H E hG room, ?_⟩
  obtain ⟨F, a, ex, r, hp, h1, h2⟩ := h
  exact hr a E hp F H F H (L2.start N vs) _ (sd_start ex r) ⟨fun ds F' H' σ e s _ => h1 _ e .non F' H' s.gr rfl, fun v d F' H' e g r => h1 _ e v F' H' g r, fun _ _ _ _ z => z.elim, fun _ _ _ _ z => z.elim, fun C fs dx gs F' H' e g hx r => h2 C fs e dx gs F' H' g hx r⟩
end

/-! ### the law's call, behind the top -/
/-- the heap's picture at the law's call: the script alone, known to its object -/
def scriptH (a : Addr) (o : Obj) (xs : List V) : Hp := fun b => if b = a then some (.frz o (.lst xs)) else none
theorem law_callG {P : Program} {w : World} {K : PySem.W.Frag} {mg mb : Str → Option Value} {k : Nat} {fa a : Addr} {fd : FuncData} {x : Str} {sp : Sp} {s₁ : Shared} {vs : List Value} {ns : List Int}
    (known : K.In s₁.heap) (gns : s₁.heap.Ns mainGlobals mg) (bns : s₁.heap.Ns builtinsNs mb) (boot : ∀ x : Str, x ≠ "__name__" → mb x = bootBuiltins x) (lim : s₁.heap.NoLimit) (nogen : s₁.gens = #[])
    (at' : s₁.heap.get? a = some { cls := .type "list", data := .seq vs.toArray }) (are : IntsAre vs ns) (short : ns.length ≤ sizeLine) (room : Room k callerA)
    (F : ∀ base : Heap, K.In base → base.Ns mainGlobals mg → FnOkG P w K mg base CX0 k fa fd [x] sp) (bnd : ∀ (s : Shared) (u : Value), BindsTo s fd ⟨[u], []⟩ [(x, u)])
    (goal : ∀ H : Hp, SqL K H a (ns.map V.int) → sp [.ref a] H (fun v _ => v = .bl true) fun _ _ _ => False) :
    codeAny (model P w) callerA (.call (.ref fa) ⟨[.ref a], []⟩) (fun r s' => r = .ok (.ret (.bool true)) ∧ OldK s₁.heap s'.heap ∧ s'.os = s₁.os ∧ AllBare s'.gens) s₁ := by
  have vals := vals_ints are
  have len := are.length
  -- whichever picture H of the heap: either nothing is tracked, or the script
  have main : ∀ H : Hp, SqL K H a (ns.map V.int) → HOk P w H s₁.heap → (∀ b, H b = none ∨ (b = a ∧ K.lookup a = none ∧ ∃ o xs, H b = some (.frz o (.lst xs)))) →
      codeAny (model P w) callerA (.call (.ref fa) ⟨[.ref a], []⟩) (fun r s' => r = .ok (.ret (.bool true)) ∧ OldK s₁.heap s'.heap ∧ s'.os = s₁.os ∧ AllBare s'.gens) s₁ := by
    intro H script ok only
    have dictFree : ∀ {b : Addr} {o : Obj} {es : Array DictEntry} {ep : Nat}, s₁.heap.get? b = some o → o.data = .dict es ep → H b = none := by
      intro b o es ep hb hd
      rcases only b with z | ⟨rfl, _⟩
      · exact z
      · rw [at'] at hb
        cases hb
        cases hd
    have nsH : ∀ {b : Addr} {m : Str → Option Value}, s₁.heap.Ns b m → (hidT s₁.heap H).Ns b m := by
      rintro b m ⟨o, es, ep, hb, hd, rest⟩
      exact ⟨o, es, ep, hidT_get hb (dictFree hb hd), hd, rest⟩
    have inH : K.In (hidT s₁.heap H) := by
      intro b o hb
      refine hidT_get (known b o hb) ?_
      rcases only b with z | ⟨rfl, z, _⟩
      · exact z
      · rw [z] at hb
        cases hb
    obtain ⟨mc, lm1, lm2⟩ := lim
    have mod : Mod K mg (hidT s₁.heap H) := ⟨inH, nsH gns, ⟨mb, nsH bns, boot⟩, ⟨mc, nsH lm1, lm2⟩⟩
    have env : Env0 P w K mg (hidT s₁.heap H) callerA [] s₁ H := by
      refine ⟨rfl, mod, fun b o => of_hidT, Nat.le_of_eq (hidT_size _ _), trivial, ?_, ok, .of_eq nogen⟩
      intro b hb
      cases hb
    have run := (F _ inH (nsH gns)).runG callerA [] s₁ H ⟨[.ref a], []⟩ [.ref a] [.ref a] _ _ rfl room env (bnd s₁ (.ref a)) (.cons rfl .nil) (goal H script)
    refine codeAny_mono run ?_
    intro r s' h
    match r, h with
    | .error e, h => exact False.elim h
    | .ok .next, h => exact False.elim h
    | .ok .brk, h => exact False.elim h
    | .ok .cont, h => exact False.elim h
    | .ok (.ret u), ⟨v, H', os, bare, un, ok', rel, q⟩ =>
      have q' : v = .bl true := q
      subst q'
      have hu : u = Value.bool true := rel
      subst hu
      refine ⟨rfl, OldK.of_keep ?_, os, bare⟩
      intro b o hb
      rcases only b with z | ⟨_, _, ob, xs, z⟩
      · exact un.keep b o hb z (List.not_mem_nil) (List.not_mem_nil)
      · have z2 := un.frzs b ob _ z
        have e1 := (ok b _ z).1
        have e2 := (ok' b _ z2).1
        rw [hb] at e1
        cases e1
        exact e2
  cases hk : K.lookup a with
  | some o =>
    have e := (known a o hk).symm.trans at'
    cases e
    refine main (fun _ => none) (.inr ⟨_, vs.toArray, _, hk, rfl, rfl, rfl, ?_, by simpa using vals⟩) (fun b u z => by cases (show (none : Option HO) = some u from z)) fun b => .inl rfl
    rw [List.size_toArray, len]
    exact short
  | none =>
    have self : scriptH a { cls := .type "list", data := .seq vs.toArray } (ns.map V.int) a = some (.frz { cls := .type "list", data := .seq vs.toArray } (.lst (ns.map V.int))) := if_pos rfl
    refine main (scriptH a { cls := .type "list", data := .seq vs.toArray } (ns.map V.int)) (.inl (.inr ⟨_, self⟩)) ?_ ?_
    · intro b u z
      by_cases hb : b = a
      · subst hb
        have z' := self.symm.trans z
        cases z'
        exact ⟨at', by rw [List.length_map]; exact short, vs, _, vals, at'⟩
      · cases (if_neg hb).symm.trans z
    · intro b
      by_cases hb : b = a
      · subst hb
        exact .inr ⟨rfl, hk, _, _, self⟩
      · exact .inl (if_neg hb)
theorem walk_G {l : PySem.W.OpenLaw} {n k : Nat} {q : Program} {loose : List Str} {XP : (Str → Option Value) → Heap → Prop} {YP : World → Heap → Prop} {d : DefRec} {K : Params → PySem.W.Frag} {sp : PySem.W.Frag → Sp} {x : Str}
    (most : l.most = some n) (fits : n ≤ sizeLine) (nodef : d.params.defaults = []) (room : Room k callerA) (inY : ∀ (w : World) (h : Heap), YP w h → (K w.params).In h)
    (F : ∀ (w : World) (mg : Str → Option Value) (fa : Addr) (h : Heap), (K w.params).In h → h.Ns mainGlobals mg → mg d.name = some (.ref fa) →
      ∃ fd : FuncData, (∀ (s : Shared) (u : Value), BindsTo s fd ⟨[u], []⟩ [(x, u)]) ∧ ∀ base : Heap, (K w.params).In base → base.Ns mainGlobals mg → FnOkG l.prog w (K w.params) mg base CX0 k fa fd [x] (sp (K w.params)))
    (goal : ∀ (K : PySem.W.Frag) (H : Hp) (a : Addr) (ns : List Int), ns.length ≤ n → SqL K H a (ns.map V.int) → sp K [.ref a] H (fun v _ => v = .bl true) fun _ _ _ => False) :
    PySem.W.WalkO q loose XP YP l.row.toRowW d [] (fun f vs => PySem.call f vs) := by
  refine Att.attach_call most nodef ?_
  intro w s₀ s₁ mg mb fa o pm cd doc a vs ns G Y ho hd hcd hmg hobj hints hlen hg
  obtain ⟨fd, bnd, ok⟩ := F w mg fa _ (inY w _ Y) G.T.g hmg
  exact law_callG (inY w _ Y) G.T.g G.T.b G.T.builtins G.T.nolimit hg hobj hints (Nat.le_trans hlen fits) room ok bnd fun H hS => goal _ H a ns hlen hS
end Sym

/-! Sym5: further rules by values: + of lists that stand anywhere, repr of data, zip and enumerate of lists, tuples, texts, sorted(d) of pairs. -/
namespace Sym
open PySem PySem.Spec PyProof.Rows L2 Evl
section
variable {X : Cx}
/-- xs + ys, lists that are read -/
def rCatS (K : PySem.W.Frag) : R2 := fun x y H Q => ∃ a b xs ys, x = .ref a ∧ y = .ref b ∧ SqL K H a xs ∧ SqL K H b ys ∧ xs.length + ys.length ≤ sizeLine ∧ ∀ p, H p = none → Q (.ref p) (upd H p (.lst (xs ++ ys)))
theorem op_catS : OpR X (binaryOp .Add) (rCatS X.K) := by
  intro pins s σ H x y v u Q I rx ry h
  obtain ⟨a, b, xs, ys, rfl, rfl, ha, hb, hz, q⟩ := h
  cases rx
  cases ry
  obtain ⟨its, r1, p1, _⟩ := I.list ha
  obtain ⟨its2, r2, p2, _⟩ := I.list hb
  obtain ⟨⟨c1, d1, t1, sl1⟩, n1, g1, e1, e2, e3⟩ := p1
  obtain ⟨⟨c2, d2, t2, sl2⟩, n2, g2, e4, e5, e6⟩ := p2
  dsimp only at e1 e2 e3 e4 e5 e6
  subst e1 e2 e3 e4 e5 e6
  have l1 := r1.length
  have l2 := r2.length
  refine concat_meets ⟨_, g1, rfl⟩ ⟨_, g2, rfl⟩ noFill_list_add seq_list_add PySem.F.slot_list_add PySem.F.entry_list_add (PySem.F.args_list_add_2 _ _) (list_addW a b its.toArray its2.toArray n1 n2 none none sl1 sl2 (by simp only [List.size_toArray]; omega)) ⟨g1, g2, ?_⟩
  have ea : its.toArray ++ its2.toArray = (its ++ its2).toArray := by simp
  rw [ea]
  exact ⟨.ref _, _, I.lnew (t' := s.toks) (r1.append r2) (by rw [List.length_append]; omega), rfl, q _ I.fresh⟩

/-- repr(x), x data: a list, a tuple -/
def rRepr (K : PySem.W.Frag) : List V → Hp → VK → Prop := fun xs H Q => ∃ a d, xs = [.ref a] ∧ Dp K H (.ref a) d ∧ d.showable = true ∧ d.hasDict = false ∧ d.depth ≤ 60 ∧ d.shown.length ≤ sizeLine ∧ Q (.str d.shown) H
theorem call_repr (hG : NoRep X.A) (hu : X.A.units + 64 < cLine) : CallR X (.builtin "repr") (rRepr X.K) := by
  intro pins s σ H xs us Q I r h
  obtain ⟨a, d, rfl, hd, h1, h2, h3, h4, q⟩ := h
  obtain ⟨u, rfl, rx⟩ := vals1 r
  obtain ⟨as, rd⟩ := Dp.reads I d _ u hd rx
  cases rx
  exact repr_of_reads' rd h1 (PyData.noDict_hsm h2) hG (by omega) (fun _ _ e => e) (fun h' u tk hk => ⟨.str d.shown, H, I.kept (t' := tk) hk, ⟨u, rfl⟩, q⟩) h4

/-! ### zip, enumerate -/
/-- what is drawn from -/
inductive Src where
  | l (a : Addr) (xs : List V) | t (a : Addr) (xs : List V) | s (z : Str)
def Src.Ok (K : PySem.W.Frag) (H : Hp) : Src → Prop
  | .l a xs => SqL K H a xs
  | .t a xs => SqT K H a xs
  | .s _ => True
def Src.items : Src → List V
  | .l _ xs => xs
  | .t _ xs => xs
  | .s z => z.cps.toList.map fun c => V.str ⟨#[c]⟩
def Src.v : Src → V
  | .l a _ => .ref a
  | .t a _ => .ref a
  | .s z => .str z
def Src.fp : Src → List Addr
  | .l a _ => [a]
  | .t a _ => [a]
  | .s _ => []
/-- the iterator's own state -/
def Src.It (it : Addr) (i : Nat) (h : Heap) : Src → Prop
  | .l a _ => h.IsListIter it a i
  | .t a _ => h.IsTupleIter it a i
  | .s z => ∃ t, h.IsStrIter it (strIterType z) z t i
theorem Src.It.at {it : Addr} {i : Nat} {h h' : Heap} {k : Src} (x : k.It it i h) (e : ∀ o, h.get? it = some o → h'.get? it = some o) : k.It it i h' := by
  cases k with
  | l a xs => exact Heap.IsListIter.at x e
  | t a xs => exact Heap.IsTupleIter.at x e
  | s z => obtain ⟨t, o, ho, r⟩ := x; exact ⟨t, o, e o ho, r⟩
theorem Src.It.obj {it : Addr} {i : Nat} {h : Heap} {k : Src} (x : k.It it i h) : ∃ o, h.get? it = some o ∧ ∀ v, o.data ≠ .cell v := by
  cases k with
  | l a xs => obtain ⟨o, e, c, d⟩ := x; exact ⟨o, e, fun v z => by rw [d] at z; cases z⟩
  | t a xs => obtain ⟨o, e, c, d⟩ := x; exact ⟨o, e, fun v z => by rw [d] at z; cases z⟩
  | s z => obtain ⟨t, o, e, c, d⟩ := x; exact ⟨o, e, fun v z => by rw [d] at z; cases z⟩
/-- it draws the items, in a state of the layer -/
theorem Src.draws {pins : List (Addr × Obj)} {σ : L2.St} {H : Hp} {s : Shared} (I : Inv X pins σ H s) (hh : X.A.in1.handled = none) {k : Src} (ok : k.Ok X.K H) {it : Addr} (apart : ∀ b ∈ k.fp, b ≠ it) {i : Nat} (st : k.It it i s.heap) :
    ∃ (Pd : Nat → Value → Prop) (St : Nat → Heap → Prop), Draws X.prog X.w X.A.in1 it (it :: k.fp) k.items.length Pd St ∧ St i s.heap ∧ (∀ j v, Pd j v → ∃ x, k.items[j]? = some x ∧ RelV x v) ∧ (∀ j h, St j h → k.It it j h) := by
  cases k with
  | l a xs =>
    obtain ⟨its, r, p, _⟩ := I.list ok
    have hl := r.length
    have D := Draws.list (prog := X.prog) (w := X.w) hh it a (apart a (List.mem_singleton_self a)) its.toArray
    rw [List.size_toArray, ← hl] at D
    refine ⟨_, _, D, ⟨st, p.isList⟩, fun j v e => ?_, fun j h e => e.1⟩
    have e' : its[j]? = some v := by simpa using e
    obtain ⟨hj, ev⟩ := List.getElem?_eq_some_iff.mp e'
    have hx : xs[j]? = some (xs[j]'(by omega)) := by simp [show j < xs.length by omega]
    obtain ⟨u, hu, ru⟩ := r.get hx
    rw [e'] at hu
    cases hu
    exact ⟨_, hx, ru⟩
  | t a xs =>
    obtain ⟨its, r, p, _⟩ := I.tuple ok
    have hl := r.length
    have D := Draws.tuple (prog := X.prog) (w := X.w) hh it a (apart a (List.mem_singleton_self a)) its.toArray
    rw [List.size_toArray, ← hl] at D
    refine ⟨_, _, D, ⟨st, (show s.heap.IsTuple a its.toArray from p)⟩, fun j v e => ?_, fun j h e => e.1⟩
    have e' : its[j]? = some v := by simpa using e
    obtain ⟨hj, ev⟩ := List.getElem?_eq_some_iff.mp e'
    have hx : xs[j]? = some (xs[j]'(by omega)) := by simp [show j < xs.length by omega]
    obtain ⟨u, hu, ru⟩ := r.get hx
    rw [e'] at hu
    cases hu
    exact ⟨_, hx, ru⟩
  | s z =>
    obtain ⟨t, st⟩ := st
    have D := Draws.text (prog := X.prog) (w := X.w) hh it z t
    have hl : (Src.s z).items.length = z.cps.size := by
      show (z.cps.toList.map fun c => V.str ⟨#[c]⟩).length = _
      rw [List.length_map, Array.length_toList]
    rw [← hl] at D
    refine ⟨_, _, D, st, fun j v e => ?_, fun j h e => ⟨t, e⟩⟩
    obtain ⟨c, u, hc, rfl⟩ := e
    refine ⟨.str ⟨#[c]⟩, ?_, u, rfl⟩
    show (z.cps.toList.map fun c => V.str ⟨#[c]⟩)[j]? = _
    rw [List.getElem?_map, Array.getElem?_toList, hc] <;> rfl

def Jz (K : PySem.W.Frag) (k1 k2 : Src) : It :=
  ⟨fun i H => i < min k1.items.length k2.items.length ∧ k1.Ok K H ∧ k2.Ok K H,
    fun i H v H' => ∃ T x y, v = .ref T ∧ H T = none ∧ H' = upd H T (.tup [x, y]) ∧ k1.items[i]? = some x ∧ k2.items[i]? = some y,
    fun i H => i = min k1.items.length k2.items.length ∧ k1.Ok K H ∧ k2.Ok K H⟩
theorem pair_ok {P : Program} {w : World} {H : Hp} {h : Heap} {T : Addr} {x y : V} {u v : Value} (hT : h.IsTuple T #[u, v]) (r1 : RelV x u) (r2 : RelV y v) : ObjOk P w H h T (.tup [x, y]) :=
  ⟨by show 2 ≤ sizeLine; decide, [u, v], .cons r1 (.cons r2 .nil), hT⟩
theorem turn_zipG {P : Program} {w : World} {K : PySem.W.Frag} {elts : List Expr} {kk : Nat} {tpos : Pos} {z TI TO i1 i2 : Addr} {k1 k2 : Src} (D : ZipSep2 z TI TO i1 i2 (i1 :: k1.fp) (i2 :: k2.fp)) (n1 : ∀ b ∈ k1.fp, b ≠ i1) (n2 : ∀ b ∈ k2.fp, b ≠ i2) :
    Turn P w K (.Tuple elts kk tpos) (Jz K k1 k2) [z, TI, TO, i1, i2] z (fun i h => IsZip h z TI TO .none ∧ IsTupOf2 h TI (.ref i1) (.ref i2) ∧ (∃ a1 a2, IsTupOf2 h TO a1 a2) ∧ k1.It i1 i h ∧ k2.It i2 i h) where
  mem := by simp
  obj := fun i h st b hb => by
    obtain ⟨s1, s2, ⟨a1, a2, s3⟩, s4, s5⟩ := st
    simp only [List.mem_cons, List.not_mem_nil, or_false] at hb
    rcases hb with e | e | e | e | e
    · subst e; exact ⟨_, s1, fun v q => nomatch q⟩
    · subst e; exact ⟨_, s2, fun v q => nomatch q⟩
    · subst e; exact ⟨_, s3, fun v q => nomatch q⟩
    · subst e; exact s4.obj
    · subst e; exact s5.obj
  keep := fun i h h' st k => by
    obtain ⟨s1, s2, ⟨a1, a2, s3⟩, s4, s5⟩ := st
    exact ⟨k z (by simp) _ s1, k TI (by simp) _ s2, ⟨a1, a2, k TO (by simp) _ s3⟩, s4.at fun o e => k i1 (by simp) o e, s5.at fun o e => k i2 (by simp) o e⟩
  item := by
    intro X hP hw hK hc i pins s σ H E I hf st hg
    subst hP hw hK
    obtain ⟨hi, ok1, ok2⟩ := hg
    obtain ⟨s1, s2, s3, s4, s5⟩ := st
    have hh : X.A.in1.handled = none := I.ok.hd hc
    obtain ⟨P1, St1, D1, t1, q1, b1⟩ := Src.draws I hh ok1 n1 s4
    obtain ⟨P2, St2, D2, t2, q2, b2⟩ := Src.draws I hh ok2 n2 s5
    refine thn ((GoesN.zip2 (elts := elts) (x1 := kk) (pos := tpos) D D1 D2).goes i s
      (fun v s' => ∃ x H', Inv X pins σ H' s' ∧ RelV x v ∧ (Jz X.K k1 k2).yld i H x H' ∧ (IsZip s'.heap z TI TO .none ∧ IsTupOf2 s'.heap TI (.ref i1) (.ref i2) ∧ (∃ a1 a2, IsTupOf2 s'.heap TO a1 a2) ∧ k1.It i1 (i + 1) s'.heap ∧ k2.It i2 (i + 1) s'.heap) ∧ ∀ b ∈ [z, TI, TO, i1, i2], H' b = none) E hi ⟨s1, s2, s3, t1, t2⟩ fun v h' tk y st' kp _ => ?_) fun r s1 q => ?_
    · obtain ⟨T, a, b, rfl, hT, p1, p2, tp⟩ := y
      obtain ⟨u1, u2, u3, u4, u5⟩ := st'
      obtain ⟨x, e1, r1⟩ := q1 i a p1
      obtain ⟨y, e2, r2⟩ := q2 i b p2
      have J := I.turnedNew (t' := tk) (ch := [z, TO, i1, i2]) kp (fun b hb => hf b (by simp only [List.mem_cons, List.not_mem_nil, or_false] at hb ⊢; rcases hb with e | e | e | e <;> simp [e])) hT (pair_ok (H := upd H T (.tup [x, y])) tp r1 r2)
      refine ⟨.ref T, _, J, rfl, ⟨T, x, y, rfl, I.hok.fresh hT, rfl, e1, e2⟩, ⟨u1, u2, u3, b1 _ _ u4, b2 _ _ u5⟩, fun b hb => ?_⟩
      have hb' : b < s.heap.objs.size := by
        obtain ⟨a1, a2, s3⟩ := s3
        simp only [List.mem_cons, List.not_mem_nil, or_false] at hb
        rcases hb with e | e | e | e | e
        · subst e; exact Heap.lt_size s1
        · subst e; exact Heap.lt_size s2
        · subst e; exact Heap.lt_size s3
        · subst e; obtain ⟨_, q, _⟩ := s4.obj; exact Heap.lt_size q
        · subst e; obtain ⟨_, q, _⟩ := s5.obj; exact Heap.lt_size q
      rw [upd_ne (Nat.ne_of_lt (Nat.lt_of_lt_of_le hb' hT))]
      exact (hf b hb).1
    · obtain ⟨v, e, q⟩ := q
      exact ⟨v, e, thn q fun _ s2 ⟨x, H', h1, h2, h3, h4, h5⟩ => ⟨x, H', h1, h2, h3, h4, h5⟩⟩
  done := by
    intro X hP hw hK hc i pins s σ H E I hf st hg
    subst hP hw hK
    obtain ⟨hi, ok1, ok2⟩ := hg
    obtain ⟨s1, s2, s3, s4, s5⟩ := st
    have hh : X.A.in1.handled = none := I.ok.hd hc
    obtain ⟨P1, St1, D1, t1, q1, b1⟩ := Src.draws I hh ok1 n1 s4
    obtain ⟨P2, St2, D2, t2, q2, b2⟩ := Src.draws I hh ok2 n2 s5
    subst hi
    exact (GoesN.zip2 (elts := elts) (x1 := kk) (pos := tpos) D D1 D2).stops s (fun s' => Inv X pins σ H s') E ⟨s1, s2, s3, t1, t2⟩ fun h' tk kp _ =>
      I.turnedL (t' := tk) (ch := [z, TO, i1, i2]) kp (fun b hb => hf b (by simp only [List.mem_cons, List.not_mem_nil, or_false] at hb ⊢; rcases hb with e | e | e | e <;> simp [e]))
  self := fun A i s Q E st h => wpAny_pyIter_zip st.1 h

def Je (K : PySem.W.Frag) (k : Src) : It :=
  ⟨fun i H => i < k.items.length ∧ k.Ok K H, fun i H v H' => ∃ T x, v = .ref T ∧ H T = none ∧ H' = upd H T (.tup [.int (i : Nat), x]) ∧ k.items[i]? = some x, fun i H => i = k.items.length ∧ k.Ok K H⟩
theorem turn_enumG {P : Program} {w : World} {K : PySem.W.Frag} {elts : List Expr} {kk : Nat} {tpos : Pos} {e it : Addr} {k : Src} (hei : e ≠ it) (hef : e ∉ k.fp) (n1 : ∀ b ∈ k.fp, b ≠ it) :
    Turn P w K (.Tuple elts kk tpos) (Je K k) [e, it] e (fun i h => (∃ old, IsEnum h e it (0 + (i : Int)) old) ∧ k.It it i h) where
  mem := by simp
  obj := fun i h st b hb => by
    obtain ⟨⟨old, s1⟩, s4⟩ := st
    simp only [List.mem_cons, List.not_mem_nil, or_false] at hb
    rcases hb with e | e
    · subst e; exact ⟨_, s1, fun v q => nomatch q⟩
    · subst e; exact s4.obj
  keep := fun i h h' st kp => by
    obtain ⟨⟨old, s1⟩, s4⟩ := st
    exact ⟨⟨old, kp e (by simp) _ s1⟩, s4.at fun o q => kp it (by simp) o q⟩
  item := by
    intro X hP hw hK hc i pins s σ H E I hf st hg
    subst hP hw hK
    obtain ⟨hi, ok1⟩ := hg
    obtain ⟨s1, s4⟩ := st
    have hh : X.A.in1.handled = none := I.ok.hd hc
    obtain ⟨P1, St1, D1, t1, q1, b1⟩ := Src.draws I hh ok1 n1 s4
    refine thn ((GoesN.enumFrom (elts := elts) (x1 := kk) (pos := tpos) 0 D1 e hei (by simp only [List.mem_cons, not_or]; exact ⟨hei, hef⟩) (List.mem_cons_self ..)).goes i s
      (fun v s' => ∃ x H', Inv X pins σ H' s' ∧ RelV x v ∧ (Je X.K k).yld i H x H' ∧ ((∃ old, IsEnum s'.heap e it (0 + ((i + 1 : Nat) : Int)) old) ∧ k.It it (i + 1) s'.heap) ∧ ∀ b ∈ [e, it], H' b = none) E hi ⟨s1, t1⟩ fun v h' tk y st' kp _ => ?_) fun r s1 q => ?_
    · obtain ⟨T, t, a, rfl, hT, p1, tp⟩ := y
      obtain ⟨u1, u4⟩ := st'
      obtain ⟨x, e1, r1⟩ := q1 i a p1
      have e0 : (0 : Int) + (i : Int) = (i : Int) := Int.zero_add _
      rw [e0] at tp
      have J := I.turnedNew (t' := tk) (ch := [e, it]) kp hf hT (pair_ok (H := upd H T (.tup [.int (i : Nat), x])) tp ⟨_, rfl⟩ r1)
      refine ⟨.ref T, _, J, rfl, ⟨T, x, rfl, I.hok.fresh hT, rfl, e1⟩, ⟨u1, b1 _ _ u4⟩, fun b hb => ?_⟩
      have hb' : b < s.heap.objs.size := by
        obtain ⟨old, s1⟩ := s1
        simp only [List.mem_cons, List.not_mem_nil, or_false] at hb
        rcases hb with e | e
        · subst e; exact Heap.lt_size s1
        · subst e; obtain ⟨_, q, _⟩ := s4.obj; exact Heap.lt_size q
      rw [upd_ne (Nat.ne_of_lt (Nat.lt_of_lt_of_le hb' hT))]
      exact (hf b hb).1
    · obtain ⟨v, e, q⟩ := q
      exact ⟨v, e, thn q fun _ s2 ⟨x, H', h1, h2, h3, h4, h5⟩ => ⟨x, H', h1, h2, h3, h4, h5⟩⟩
  done := by
    intro X hP hw hK hc i pins s σ H E I hf st hg
    subst hP hw hK
    obtain ⟨hi, ok1⟩ := hg
    obtain ⟨s1, s4⟩ := st
    have hh : X.A.in1.handled = none := I.ok.hd hc
    obtain ⟨P1, St1, D1, t1, q1, b1⟩ := Src.draws I hh ok1 n1 s4
    subst hi
    exact (GoesN.enumFrom (elts := elts) (x1 := kk) (pos := tpos) 0 D1 e hei (by simp only [List.mem_cons, not_or]; exact ⟨hei, hef⟩) (List.mem_cons_self ..)).stops s (fun s' => Inv X pins σ H s') E ⟨s1, t1⟩ fun h' tk kp _ =>
      I.turnedL (t' := tk) (ch := [e, it]) kp hf
  self := fun A i s Q E st h => let ⟨⟨_, he⟩, _⟩ := st; wpAny_pyIter_enum he h
/-- the source begins: from a state, at an address -/
def Src.obj (k : Src) (u : Value) : Obj := match k with
  | .l a _ => { cls := .type "list_iterator", data := .fields #[.ref a, .int 0 0] }
  | .t a _ => { cls := .type "tuple_iterator", data := .fields #[.ref a, .int 0 0] }
  | .s z => { cls := .type (strIterType z), data := .fields #[u, .int 0 0] }
theorem Src.begins {pins : List (Addr × Obj)} {σ : L2.St} {H : Hp} {s : Shared} (I : Inv X pins σ H s) {k : Src} (ok : k.Ok X.K H) {u : Value} (r : RelV k.v u) :
    ∃ G : Heap → Prop, Begins u (k.obj u) G ∧ G s.heap ∧ (∀ b ∈ k.fp, b < s.heap.objs.size) ∧ ∀ (h : Heap) (it : Addr), h.get? it = some (k.obj u) → k.It it 0 h := by
  cases k with
  | l a xs =>
    obtain ⟨its, _, p, _⟩ := I.list ok
    cases r
    exact ⟨_, begins_list a its.toArray, p.isList, fun b hb => by rw [List.mem_singleton.mp hb]; exact p.lt, fun h it e => ⟨_, e, rfl, rfl⟩⟩
  | t a xs =>
    obtain ⟨its, _, p, _⟩ := I.tuple ok
    cases r
    exact ⟨_, begins_tuple a its.toArray, (show s.heap.IsTuple a its.toArray from p), fun b hb => by rw [List.mem_singleton.mp hb]; exact p.lt, fun h it e => ⟨_, e, rfl, rfl⟩⟩
  | s z =>
    obtain ⟨t, rfl⟩ := r
    refine ⟨fun _ => True, begins_text z t, True.intro, ?_, fun h it e => ⟨t, _, e, rfl, rfl⟩⟩
    intro b hb
    cases hb
def iZipG (K : PySem.W.Frag) (ta : TA) : TI := fun σ H R => ta σ H fun vs H1 => ∃ k1 k2 : Src, vs = [k1.v, k2.v] ∧ k1.Ok K H1 ∧ k2.Ok K H1 ∧ R (Jz K k1 k2) H1
theorem pi_zipG {e e2 : Expr} {ta : TA} {p pos tpos : Pos} {elts : List Expr} {kk : Nat} (hg : Gl X "zip") (hm : X.mg "zip" = none) (ha : PA X [e, e2] ta)
    (hs : starEach [e, e2] X.env = (false, eval e X.env) :: starEach [e2] X.env := by rfl) (hpl : (backTo pos (starEach [e2] X.env)).any (·.1) = false := by rfl) :
    PI X (.Tuple elts kk tpos) (.Call (.Name "zip" p) [e, e2] [] pos) (iZipG X.K ta) := by
  constructor
  intro pins s σ H R I h
  refine Call_ (ld_blt I hg hm boot_zip (callWith_type1 (thn (ha.run pos pins s σ H _ I h) ?_) hs hpl))
  rintro us s1 ⟨vs, H1, I1, r1, k1, k2, rfl, ok1, ok2, q⟩
  obtain ⟨u1, u2, rfl, ru1, ru2⟩ := vals2 r1
  obtain ⟨G1, B1, g1, l1, st1⟩ := Src.begins I1 ok1 ru1
  obtain ⟨G2, B2, g2, l2, st2⟩ := Src.begins I1 ok2 ru2
  refine zip_begins2 B1 B2 g1 g2 fun h' hz hTI hTO h1 h2 hsz hk => wpAny_pyIter_zip hz ?_
  have I2 : Inv X pins σ H1 { s1 with heap := h' } := I1.kept (t' := s1.toks) hk
  refine ⟨s1.heap.objs.size + 4, [s1.heap.objs.size + 4, s1.heap.objs.size + 2, s1.heap.objs.size + 3, s1.heap.objs.size, s1.heap.objs.size + 1], _, _, H1, rfl, I2,
    turn_zipG (zip_sep2 l1 l2) (fun b hb => Nat.ne_of_lt (l1 b hb)) (fun b hb => Nat.ne_of_lt (Nat.lt_succ_of_lt (l2 b hb))), ⟨hz, hTI, ⟨_, _, hTO⟩, st1 _ _ h1, st2 _ _ h2⟩, fun c hc => ?_, q⟩
  have le : s1.heap.objs.size ≤ c := by
    simp only [List.mem_cons, List.not_mem_nil, or_false] at hc
    rcases hc with e | e | e | e | e
    · rw [e]; exact Nat.le_add_right _ _
    · rw [e]; exact Nat.le_add_right _ _
    · rw [e]; exact Nat.le_add_right _ _
    · rw [e]; exact Nat.le_refl _
    · rw [e]; exact Nat.le_add_right _ _
  exact I1.fpOk le (I1.hok.fresh le)
/-- enumerate(v), v a list or a text -/
def iEnumG (K : PySem.W.Frag) (ta : TA) : TI := fun σ H R => ta σ H fun vs H1 => ∃ k : Src, vs = [k.v] ∧ k.Ok K H1 ∧ (∀ a xs, k ≠ .t a xs) ∧ R (Je K k) H1
theorem pi_enumG {e : Expr} {ta : TA} {p pos tpos : Pos} {elts : List Expr} {kk : Nat} (hg : Gl X "enumerate") (hm : X.mg "enumerate" = none) (ha : PA X [e] ta) (hs : starEach [e] X.env = [(false, eval e X.env)] := by rfl) :
    PI X (.Tuple elts kk tpos) (.Call (.Name "enumerate" p) [e] [] pos) (iEnumG X.K ta) := by
  constructor
  intro pins s σ H R I h
  refine Call_ (ld_blt I hg hm boot_enumerate (callWith_type1 (thn (ha.run pos pins s σ H _ I h) ?_) hs rfl))
  rintro us s1 ⟨vs, H1, I1, r1, k, rfl, ok, nt, q⟩
  obtain ⟨u, rfl, ru⟩ := vals1 r1
  have fin : ∀ h' : Heap, IsEnum h' (s1.heap.objs.size + 1) s1.heap.objs.size 0 .none → k.It s1.heap.objs.size 0 h' → (∀ b ∈ k.fp, b < s1.heap.objs.size) → (∀ b o, s1.heap.get? b = some o → h'.get? b = some o) →
      PIE X pins σ (.Tuple elts kk tpos) R (.ref (s1.heap.objs.size + 1)) { s1 with heap := h' } := fun h' he hit lt hk => by
    refine ⟨s1.heap.objs.size + 1, [s1.heap.objs.size + 1, s1.heap.objs.size], _, _, H1, rfl, I1.kept (t' := s1.toks) hk,
      turn_enumG (k := k) (Nat.succ_ne_self _) (fun z => absurd (lt _ z) (Nat.not_lt.mpr (Nat.le_succ _))) (fun b hb => Nat.ne_of_lt (lt b hb)), ⟨⟨.none, he⟩, hit⟩, fun c hc => ?_, q⟩
    have le : s1.heap.objs.size ≤ c := by
      simp only [List.mem_cons, List.not_mem_nil, or_false] at hc
      rcases hc with e | e
      · rw [e]; exact Nat.le_add_right _ _
      · rw [e]; exact Nat.le_refl _
    exact I1.fpOk le (I1.hok.fresh le)
  cases k with
  | l a xs =>
    obtain ⟨its, _, p, _⟩ := I1.list ok
    cases ru
    exact call_enumerate_list p.isList fun h' he hit hsz hk => wpAny_pyIter_enum he (fin h' he hit (fun b hb => by rw [List.mem_singleton.mp hb]; exact p.lt) hk)
  | t a xs => exact absurd rfl (nt a xs)
  | s z =>
    obtain ⟨t, rfl⟩ := ru
    exact call_enumerate_str fun h' he hit hsz hk => wpAny_pyIter_enum he (fin h' he ⟨t, hit⟩ (fun b hb => by cases hb) hk)
end
end Sym

/-! Sym6: one rule an operator, whatever its operands are; what it gives, by data. -/
namespace Sym
open PySem PySem.Spec PyProof.Rows L2 Evl
abbrev S' (l : List Nat) : Str := ⟨l.toArray⟩
theorem s_len (l : List Nat) : (S' l).length = l.length := by show l.toArray.size = _; rw [List.size_toArray]
theorem s_app (a b : List Nat) : S' a ++ S' b = S' (a ++ b) := TL.ext_tl (by rw [TL.tl_append] <;> rfl)

section rules
variable {X : Cx}
def gAdd (K : PySem.W.Frag) : R2 := fun x y H Q => rI0 (fun i j => .int (i + j)) x y H Q ∨ (∃ i j, x = .str i ∧ y = .str j ∧ i.length + j.length ≤ sizeLine ∧ Q (.str (i ++ j)) H) ∨ rCatS K x y H Q ∨ rCatA K x y H Q
theorem op_gAdd : OpR X (binaryOp .Add) (gAdd X.K) := .or op_add (.or op_add_str (.or op_catS op_catA))
def gMinus : R2 := rI0 fun i j => .int (i - j)
theorem op_gSub : OpR X (binaryOp .Sub) gMinus := op_sub
def gMul : R2 := rI CMulW fun i j => .int (i * j)
theorem op_gMul : OpR X (binaryOp .Mult) gMul := op_mulW
def gFdiv : R2 := rI CDivW fun i j => .int (i / j)
theorem op_gFdiv : OpR X (binaryOp .FloorDiv) gFdiv := op_fdivW
def gMod : R2 := rI (fun _ j => 0 < j) fun i j => .int (i % j)
theorem op_gMod : OpR X (binaryOp .Mod) gMod := op_mod
def gPow : R2 := rI CPow fun i j => .int (i ^ j.toNat)
theorem op_gPow : OpR X (binaryOp .Pow) gPow := op_pow
def gLt : R2 := fun x y H Q => rI0 (fun i j => .bl (decide (i < j))) x y H Q ∨ (∃ i j, x = .str i ∧ y = .str j ∧ Q (.bl (decide (i.cps.toList < j.cps.toList))) H)
theorem op_gLt : OpR X (compareOp .Lt) gLt := .or op_lt op_lt_str
def gLe : R2 := rI0 fun i j => .bl (decide (i ≤ j))
theorem op_gLe : OpR X (compareOp .LtE) gLe := op_le
def gGt : R2 := rI0 fun i j => .bl (decide (j < i))
theorem op_gGt : OpR X (compareOp .Gt) gGt := op_gt
def gGe : R2 := rI0 fun i j => .bl (decide (j ≤ i))
theorem op_gGe : OpR X (compareOp .GtE) gGe := op_ge
def gEq (K : PySem.W.Frag) : R2 := fun x y H Q => rEq x y H Q ∨ rEqD K x y H Q
theorem op_gEq (hu : X.A.units + 64 < cLine) : OpR X (compareOp .Eq) (gEq X.K) := .or op_eq (op_eqD hu)
def gNe (K : PySem.W.Frag) : R2 := fun x y H Q => rNe x y H Q ∨ rNeD K x y H Q
theorem op_gNe (hu : X.A.units + 64 < cLine) : OpR X (compareOp .NotEq) (gNe X.K) := .or op_ne (op_neD hu)
def gIs : R2 := fun x y H Q => y = .non ∧ Q (.bl (decide (x = .non))) H
theorem op_gIs : OpR X (compareOp .Is) gIs := op_isN
def gIsNot : R2 := fun x y H Q => y = .non ∧ Q (.bl (!decide (x = .non))) H
theorem op_gIsNot : OpR X (compareOp .IsNot) gIsNot := op_notN
/-- a dict of ints and texts -/
def rInK (neg : Bool) : R2 := fun y x H Q => ∃ a kvs k, x = .ref a ∧ H a = some (.dK kvs) ∧ y = kV k ∧ Q (.bl (if neg then !(valV kvs k).isSome else (valV kvs k).isSome)) H
theorem op_inK (hu : X.A.units + 64 < cLine) : OpR X (compareOp .In) (rInK false) := by
  intro pins s σ H x y v u Q I rx ry h
  obtain ⟨a, kvs, k, rfl, hd, rfl, q⟩ := h
  cases ry
  exact d_in (by omega) I (DGet.k hd) rx fun s' I' => ⟨.bl _, H, I', rfl, q⟩
theorem op_notInK (hu : X.A.units + 64 < cLine) : OpR X (compareOp .NotIn) (rInK true) := by
  intro pins s σ H x y v u Q I rx ry h
  obtain ⟨a, kvs, k, rfl, hd, rfl, q⟩ := h
  cases ry
  exact d_notIn (by omega) I (DGet.k hd) rx fun s' I' => ⟨.bl _, H, I', rfl, q⟩
def rSign (neg : Bool) : R2 := fun x y H Q => ∃ (c : Nat) (z : Str), x = .str ⟨#[c]⟩ ∧ y = .str z ∧ Q (.bl (if neg then !decide (c ∈ z.cps.toList) else decide (c ∈ z.cps.toList))) H
def gIn (P : Program) (w : World) (K : PySem.W.Frag) : R2 := fun x y H Q => rSign false x y H Q ∨ rIn K false x y H Q ∨ rInK false x y H Q ∨ rInN P w K false x y H Q ∨ rInD K x y H Q
theorem op_gIn (hu : X.A.units + 65 < cLine) : OpR X (compareOp .In) (gIn X.prog X.w X.K) := .or op_in_sign (.or op_in_seq (.or (op_inK (by omega)) (.or (op_inN (by omega)) (op_inD hu))))
def gNotIn (P : Program) (w : World) (K : PySem.W.Frag) : R2 := fun x y H Q => rSign true x y H Q ∨ rIn K true x y H Q ∨ rInK true x y H Q ∨ rInN P w K true x y H Q ∨ rNotInD K x y H Q
theorem op_gNotIn (hu : X.A.units + 65 < cLine) : OpR X (compareOp .NotIn) (gNotIn X.prog X.w X.K) := .or op_notIn_sign (.or op_notIn_seq (.or (op_notInK (by omega)) (.or (op_notInN (by omega)) (op_notInD hu))))
/-- o[i] -/
def tIx (P : Program) (w : World) (K : PySem.W.Frag) (ta tb : TE) : TE := tOrE (tOp (rIx K) ta tb) (tOrE (tDGet ta tb) (tNGet P w K ta tb))
theorem pe_gIx {a b : Expr} {pos : Pos} {ta tb : TE} (hu : X.A.units + 64 < cLine) (ha : PE X a ta) (hb : PE X b tb) (h1 : PlainIx b) (h2 : NoSl b) : PE X (.Subscript a b pos) (tIx X.prog X.w X.K ta tb) :=
  pe_alt (pe_ix ix_seq ha hb h1) (pe_alt (pe_dget (by omega) ha hb h2) (pe_nget hu ha hb h2))
def gSl (K : PySem.W.Frag) : V → Option Int → Option Int → Hp → VK → Prop := fun x lo hi H Q => rSlL K x lo hi H Q ∨ rSlA K x lo hi H Q ∨ rSlS x lo hi H Q
theorem sl_gSl : SlR X (gSl X.K) := .or sl_list (.or sl_tupA sl_str)
def gLen (P : Program) (w : World) (K : PySem.W.Frag) : List V → Hp → VK → Prop := fun xs H Q => (∃ p ys, xs = [.ref p] ∧ (SqL K H p ys ∨ SqT K H p ys) ∧ Q (.int ys.length) H) ∨ (∃ z, xs = [.str z] ∧ z.length ≤ sizeLine ∧ Q (.int z.length) H) ∨
  (∃ a kvs, xs = [V.ref a] ∧ H a = some (.dK kvs) ∧ Q (.int kvs.length) H) ∨ rLenN P w K xs H Q
theorem call_gLen : CallR X (.builtin "len") (gLen X.prog X.w X.K) := .or call_len_seq (.or call_len_str (.or call_lenD call_lenN))
def gInt : List V → Hp → VK → Prop := fun xs H Q => (∃ i, xs = [.int i] ∧ Q (.int i) H) ∨ ∃ k, xs = [.bl k] ∧ Q (.int (if k then 1 else 0)) H
theorem call_gInt : CallR X (.type "int") gInt := call_int1
def gTuple (K : PySem.W.Frag) : List V → Hp → VK → Prop := fun xs H Q => ∃ p ys, xs = [.ref p] ∧ ((SqL K H p ys ∧ ∀ l, H l = none → Q (.ref l) (upd H l (.tup ys))) ∨ (SqT K H p ys ∧ Q (.ref p) H))
theorem call_gTuple : CallR X (.type "tuple") (gTuple X.K) := call_tuple_of
def gList (K : PySem.W.Frag) : List V → Hp → VK → Prop := fun xs H Q => ∃ p ys, xs = [.ref p] ∧ (SqL K H p ys ∨ SqT K H p ys) ∧ ∀ l, H l = none → Q (.ref l) (upd H l (.lst ys))
theorem call_gList : CallR X (.type "list") (gList X.K) := call_list_of
def gRepr (K : PySem.W.Frag) : List V → Hp → VK → Prop := fun xs H Q => rRepr K xs H Q ∨ ∃ i, xs = [.int i] ∧ i.natAbs.log2 < 1920 ∧ Q (.str (toString i)) H
theorem call_gRepr (hG : NoRep X.A) (hu : X.A.units + 64 < cLine) : CallR X (.builtin "repr") (gRepr X.K) := .or (call_repr hG hu) SkE.call_repr_int
def gSorted (P : Program) (w : World) (K : PySem.W.Frag) : List V → Hp → VK → Prop := fun xs H Q => rSortN P w K xs H Q ∨ rSortedI K xs H Q
theorem call_gSorted (hc : X.calm = true) : CallR X (.builtin "sorted") (gSorted X.prog X.w X.K) := .or (cr_sortN hc) cr_sortedI
/-- s.index(c) -/
def gIndex (K : PySem.W.Frag) : V → List V → Hp → VK → Prop := fun x xs H Q => ∃ a b i rest, x = .str a ∧ xs = [.str b] ∧ Builtin.Str.occurrences a b 0 a.length 1 = i :: rest ∧ Q (.int (i : Nat)) H
/-- d[k] = v, xs[i] = v -/
def sPut (P : Program) (w : World) (K : PySem.W.Frag) (td ty tv : TE) : TS := fun Dn σ H => sDPut td ty tv Dn σ H ∨ sNPut P w K td ty tv Dn σ H ∨ tAsg tv (gSub td ty rSetL) Dn σ H
theorem ps_gPut {o i value : Expr} {pos pos' : Pos} {td ty tv : TE} (hu : X.A.units + 64 < cLine) (ho : PE X o td) (hi : PE X i ty) (hv : PE X value tv) (hs : swapsWith value (some (.Subscript o i pos')) pos.line X.env = pure false) (h2 : PS X (.Assign [.Subscript o i pos'] value pos) (tAsg tv (gSub td ty rSetL))) :
    PS X (.Assign [.Subscript o i pos'] value pos) (sPut X.prog X.w X.K td ty tv) := ⟨fun pins s σ H Dn I h => by
  rcases h with h | h | h
  · exact (ps_dput (by omega) ho hi hv hs).run pins s σ H Dn I h
  · exact (ps_nput hu ho hi hv hs).run pins s σ H Dn I h
  · exact h2.run pins s σ H Dn I h⟩
/-- d.get(k, x) -/
def tGet2 (P : Program) (w : World) (K : PySem.W.Frag) (td ty tx : TE) : TE := tOrE (tDGet2 td ty tx) (tNGet2 P w K td ty tx)
theorem pe_gGet2 {o e f : Expr} {apos cpos : Pos} {td ty tx : TE} (hu : X.A.units + 64 < cLine) (ho : PE X o td) (he : PE X e ty) (hf : PE X f tx) (m : M2 X o "get" apos e f cpos) : PE X (.Call (.Attribute o "get" apos) [e, f] [] cpos) (tGet2 X.prog X.w X.K td ty tx) :=
  pe_alt (pe_dget2 (by omega) ho he hf m) (pe_nget2 hu ho he hf m)
/-- {} -/
def tDict (P : Program) (w : World) : TE := tOrE tDNewK (tDNewN P w)
theorem pe_gDict {pos : Pos} : PE X (.Dict [] [] pos) (tDict X.prog X.w) := pe_alt pe_dnewK pe_dnewN
/-- what a for walks: a list, a tuple, a text -/
def iAny (K : PySem.W.Frag) (te : TE) : TI := iOrI (iList K te) (iOrI (iTup K te) (iStr te))
theorem pi_any {tg e : Expr} {te : TE} (h : PE X e te) : PI X tg e (iAny X.K te) := pi_alt (pi_list h) (pi_alt (pi_tup h) (pi_str h))
end rules

/-! ### by data -/
section data
variable {P : Program} {w : World} {K : PySem.W.Frag} {E : XK} {ds ds' : Env'} {te ta tb tc : TE} {x y z d : D} {t u : TT} {tr : TA} {xs ys : List D} {b c : Bool} {tu tw tz : TS} {Po : Post} {g : TG} {ti : TI} {i j : Int} {a a' : Str}
theorem o_addI : Op2 K (gAdd K) (.int i) (.int j) (.int (i + j)) := fun F H u v e r1 r2 Q q => .inl ⟨i, j, r1, r2, q _ F H (.refl e) rfl⟩
theorem o_addS (h : a.length + a'.length ≤ 16777216) : Op2 K (gAdd K) (.str a) (.str a') (.str (a ++ a')) := fun F H u v e r1 r2 Q q => .inr (.inl ⟨a, a', r1, r2, sz_of h, q _ F H (.refl e) rfl⟩)
theorem o_addSs {l m : List Nat} (h : l.length + m.length ≤ 16777216) : Op2 K (gAdd K) (.str (S' l)) (.str (S' m)) (.str (S' (l ++ m))) := by
  rw [← s_app]
  exact o_addS (by rw [s_len, s_len]; exact h)
theorem o_addL (h : xs.length + ys.length ≤ 16777216) : Op2 K (gAdd K) (.lst xs) (.lst ys) (.lst (xs ++ ys)) := fun F H u v e r1 r2 Q q => by
  obtain ⟨p, vs, rfl, h1, h2⟩ := r1
  obtain ⟨p', vs', rfl, h3, h4⟩ := r2
  refine .inr (.inr (.inl ⟨p, p', vs, vs', rfl, rfl, ex_l e h1, ex_l e h3, sz_of (by rw [← h2.length, ← h4.length]; exact h), fun n hn => ?_⟩))
  have gr := Grow.new (o := .lst (vs ++ vs')) e hn
  exact q _ _ _ gr ⟨n, vs ++ vs', rfl, .inl (.inl upd_same), Rps.mono gr.ff _ _ (h2.append h4)⟩
theorem o_addT (h : xs.length + ys.length ≤ 16777216) : Op2 K (gAdd K) (.tup xs) (.tup ys) (.tup (xs ++ ys)) := fun F H u v e r1 r2 Q q => by
  obtain ⟨p, vs, rfl, h1, h2⟩ := r1
  obtain ⟨p', vs', rfl, h3, h4⟩ := r2
  refine .inr (.inr (.inr ⟨p, p', vs, vs', rfl, rfl, ex_t e h1, ex_t e h3, sz_of (by rw [← h2.length, ← h4.length]; exact h), fun e1 => ?_, fun _ e1 => ?_, fun _ _ n hn => ?_⟩))
  · subst e1
    have e2 : xs = [] := List.length_eq_zero_iff.mp (by rw [h2.length] <;> rfl)
    subst e2
    exact q _ F H (.refl e) ⟨p', vs', rfl, h3, h4⟩
  · subst e1
    have e2 : ys = [] := List.length_eq_zero_iff.mp (by rw [h4.length] <;> rfl)
    subst e2
    refine q _ F H (.refl e) ⟨p, vs, rfl, h1, ?_⟩
    rw [List.append_nil]
    exact h2
  · have gr := Grow.new (o := .tup (vs ++ vs')) e hn
    exact q _ _ _ gr ⟨n, vs ++ vs', rfl, .inl (.inl upd_same), Rps.mono gr.ff _ _ (h2.append h4)⟩
theorem o_sub : Op2 K gMinus (.int i) (.int j) (.int (i - j)) := fun F H u v e r1 r2 Q q => ⟨i, j, r1, r2, q _ F H (.refl e) rfl⟩
theorem o_mul (h : CMulW i j) : Op2 K gMul (.int i) (.int j) (.int (i * j)) := fun F H u v e r1 r2 Q q => ⟨i, j, r1, r2, h, q _ F H (.refl e) rfl⟩
theorem o_fdiv (h : CDivW i j) : Op2 K gFdiv (.int i) (.int j) (.int (i / j)) := fun F H u v e r1 r2 Q q => ⟨i, j, r1, r2, h, q _ F H (.refl e) rfl⟩
theorem o_mod (h : 0 < j) : Op2 K gMod (.int i) (.int j) (.int (i % j)) := fun F H u v e r1 r2 Q q => ⟨i, j, r1, r2, h, q _ F H (.refl e) rfl⟩
theorem o_pow (h : CPow i j) : Op2 K gPow (.int i) (.int j) (.int (i ^ j.toNat)) := fun F H u v e r1 r2 Q q => ⟨i, j, r1, r2, h, q _ F H (.refl e) rfl⟩
theorem o_ltI : Op2 K gLt (.int i) (.int j) (.bl (decide (i < j))) := fun F H u v e r1 r2 Q q => .inl ⟨i, j, r1, r2, q _ F H (.refl e) rfl⟩
theorem o_ltS : Op2 K gLt (.str a) (.str a') (.bl (decide (a.cps.toList < a'.cps.toList))) := fun F H u v e r1 r2 Q q => .inr ⟨a, a', r1, r2, q _ F H (.refl e) rfl⟩
theorem o_le : Op2 K gLe (.int i) (.int j) (.bl (decide (i ≤ j))) := fun F H u v e r1 r2 Q q => ⟨i, j, r1, r2, q _ F H (.refl e) rfl⟩
theorem o_gt : Op2 K gGt (.int i) (.int j) (.bl (decide (j < i))) := fun F H u v e r1 r2 Q q => ⟨i, j, r1, r2, q _ F H (.refl e) rfl⟩
theorem o_ge : Op2 K gGe (.int i) (.int j) (.bl (decide (j ≤ i))) := fun F H u v e r1 r2 Q q => ⟨i, j, r1, r2, q _ F H (.refl e) rfl⟩
theorem vint_dec : decide (V.int i = V.int j) = decide (i = j) := by simp
theorem vstr_dec : decide (V.str a = V.str a') = decide (a = a') := by simp
theorem o_eqI : Op2 K (gEq K) (.int i) (.int j) (.bl (decide (i = j))) := fun F H u v e r1 r2 Q q => by
  have e1 : u = .int i := r1
  have e2 : v = .int j := r2
  subst e1 e2
  exact .inl ⟨rfl, q _ F H (.refl e) (by rw [vint_dec] <;> rfl)⟩
theorem o_eqS : Op2 K (gEq K) (.str a) (.str a') (.bl (decide (a = a'))) := fun F H u v e r1 r2 Q q => by
  have e1 : u = .str a := r1
  have e2 : v = .str a' := r2
  subst e1 e2
  exact .inl ⟨rfl, q _ F H (.refl e) (by rw [vstr_dec] <;> rfl)⟩
theorem o_neI : Op2 K (gNe K) (.int i) (.int j) (.bl (!decide (i = j))) := fun F H u v e r1 r2 Q q => by
  have e1 : u = .int i := r1
  have e2 : v = .int j := r2
  subst e1 e2
  exact .inl ⟨rfl, q _ F H (.refl e) (by rw [vint_dec] <;> rfl)⟩
theorem o_neS : Op2 K (gNe K) (.str a) (.str a') (.bl (!decide (a = a'))) := fun F H u v e r1 r2 Q q => by
  have e1 : u = .str a := r1
  have e2 : v = .str a' := r2
  subst e1 e2
  exact .inl ⟨rfl, q _ F H (.refl e) (by rw [vstr_dec] <;> rfl)⟩
theorem o_eqD (h1 : plain x = true) (h2 : plain y = true) (s1 : SeqAt.shaped (toPy x) = true) (s2 : SeqAt.shaped (toPy y) = true) : Op2 K (gEq K) x y (.bl (PyData.eqv (toPy x) (toPy y))) := fun F H u v e r1 r2 Q q =>
  .inr ⟨_, _, Rp.dp _ _ h1 (r1.mono e), Rp.dp _ _ h2 (r2.mono e), s1, s2, q _ F H (.refl e) rfl⟩
theorem o_neD (h1 : plain x = true) (h2 : plain y = true) (s1 : SeqAt.shaped (toPy x) = true) (s2 : SeqAt.shaped (toPy y) = true) : Op2 K (gNe K) x y (.bl (!PyData.eqv (toPy x) (toPy y))) := fun F H u v e r1 r2 Q q =>
  .inr ⟨_, _, Rp.dp _ _ h1 (r1.mono e), Rp.dp _ _ h2 (r2.mono e), s1, s2, q _ F H (.refl e) rfl⟩
theorem o_inSign {k : Nat} : Op2 K (gIn P w K) (.str ⟨#[k]⟩) (.str a) (.bl (decide (k ∈ a.cps.toList))) := fun F H u v e r1 r2 Q q => .inl ⟨k, a, r1, r2, q _ F H (.refl e) rfl⟩
theorem o_notInSign {k : Nat} : Op2 K (gNotIn P w K) (.str ⟨#[k]⟩) (.str a) (.bl (!decide (k ∈ a.cps.toList))) := fun F H u v e r1 r2 Q q => .inl ⟨k, a, r1, r2, q _ F H (.refl e) rfl⟩
theorem o_isN : Op2 K gIs .non .non (.bl true) := fun F H u v e r1 r2 Q q => by
  have e1 : u = .non := r1
  subst e1
  exact ⟨r2, q _ F H (.refl e) rfl⟩

/-! items -/
theorem rps_atI {F : Hp} {vs : List V} (r : Rps K F xs vs) (h : atI xs i = some d) : ∃ v, atI vs i = some v ∧ Rp K F d v := by
  unfold atI at h ⊢
  rw [← r.length]
  cases e : ixN xs.length i with
  | none => rw [e] at h; cases h
  | some n =>
    rw [e] at h
    exact r.get h
theorem o_ixL (h : atI xs i = some d) : Op2 K (rIx K) (.lst xs) (.int i) d := fun F H u v e r1 r2 Q q => by
  obtain ⟨p, vs, rfl, h1, h2⟩ := r1
  obtain ⟨v', e1, e2⟩ := rps_atI h2 h
  exact .inl ⟨p, vs, i, v', rfl, r2, ex_l e h1, e1, q _ F H (.refl e) e2⟩
theorem o_ixT (h : atI xs i = some d) : Op2 K (rIx K) (.tup xs) (.int i) d := fun F H u v e r1 r2 Q q => by
  obtain ⟨p, vs, rfl, h1, h2⟩ := r1
  obtain ⟨v', e1, e2⟩ := rps_atI h2 h
  exact .inr (.inl ⟨p, vs, i, v', rfl, r2, ex_t e h1, e1, q _ F H (.refl e) e2⟩)
theorem o_ixS {k : Nat} (hl : a.length ≤ 16777216) (h : atI a.cps.toList i = some k) : Op2 K (rIx K) (.str a) (.int i) (.str ⟨#[k]⟩) := fun F H u v e r1 r2 Q q =>
  .inr (.inr ⟨a, i, k, r1, r2, sz_of hl, h, q _ F H (.refl e) rfl⟩)
theorem ev_ix (ha : Ev K ta ds x) (hb : Ev K tb ds y) (ho : Op2 K (rIx K) x y d) : Ev K (tIx P w K ta tb) ds d := ev_l (ev_op2 ha hb ho)
theorem atI_of {α : Type} {l : List α} {n : Nat} {v : α} (h : l[n]? = some v) : atI l (n : Int) = some v := by
  have hn : n < l.length := (List.getElem?_eq_some_iff.mp h).1
  unfold atI ixN
  rw [if_pos (by omega), if_pos (by omega)]
  simpa using h
theorem atI_to {α : Type} {l : List α} {k : Int} {v : α} (h0 : 0 ≤ k) (h : l[k.toNat]? = some v) : atI l k = some v := by
  have e : k = (k.toNat : Int) := (Int.toNat_of_nonneg h0).symm
  rw [e]
  exact atI_of h
theorem atI_end {α : Type} {l : List α} {v : α} (h : l.getLast? = some v) : atI l (-1) = some v := by
  cases l with
  | nil => cases h
  | cons a r =>
    unfold atI ixN
    have e : (a :: r).length = r.length + 1 := rfl
    rw [if_neg (by omega), if_pos (by rw [e]; omega)]
    rw [List.getLast?_eq_getElem?] at h
    have e2 : ((-1 : Int) + ((a :: r).length : Int)).toNat = (a :: r).length - 1 := by rw [e]; omega
    rw [e2]
    exact h
/-- an item of a changing list -/
theorem ev_ixM {k : Nat} (hk : ds[k]? = some (some (.ml xs))) (hb : Ev K tb ds (.int i)) (h : atI xs i = some d) : Ev K (tIx P w K (tVar k) tb) ds d := fun F0 H0 F H σ S Q q => by
  obtain ⟨v, h1, ad, vs, rfl, h0, hF, hH, hr⟩ := S.at' k _ hk
  refine .inl ⟨_, h1, hb F0 H0 F H σ S _ fun u F1 H1 g1 r1 => ?_⟩
  obtain ⟨v', e1, e2⟩ := rps_atI (Rps.mono g1.ff _ _ hr) h
  exact .inl ⟨ad, vs, i, v', rfl, r1, .inl (.inl (g1.hh _ _ hH)), e1, q _ F1 H1 g1 e2⟩

/-! slices -/
def cutD {α : Type} (xs : List α) (lo hi : Option Int) : List α := (xs.drop (HT.sIx xs.length 0 lo)).take (HT.sIx xs.length xs.length hi - HT.sIx xs.length 0 lo)
theorem rps_cut {F : Hp} {vs : List V} (r : Rps K F xs vs) (lo hi : Option Int) : Rps K F (cutD xs lo hi) (cutV vs lo hi) := by
  unfold cutD cutV
  rw [r.length]
  exact (r.drop _).take _
theorem o_slL {lo hi : Option Int} : OpS K (gSl K) (.lst xs) lo hi (.lst (cutD xs lo hi)) := fun F H u e r Q q => by
  obtain ⟨p, vs, rfl, h1, h2⟩ := r
  refine .inl ⟨p, vs, rfl, ex_l e h1, fun n hn => ?_⟩
  have gr := Grow.new (o := .lst (cutV vs lo hi)) e hn
  exact q _ _ _ gr ⟨n, _, rfl, .inl (.inl upd_same), Rps.mono gr.ff _ _ (rps_cut h2 lo hi)⟩
theorem o_slT {lo hi : Option Int} : OpS K (gSl K) (.tup xs) lo hi (.tup (cutD xs lo hi)) := fun F H u e r Q q => by
  obtain ⟨p, vs, rfl, h1, h2⟩ := r
  refine .inr (.inl ⟨p, vs, rfl, ex_t e h1, fun hh => ?_, fun _ n hn => ?_⟩)
  · refine q _ F H (.refl e) ⟨p, vs, rfl, h1, ?_⟩
    have hc : cutD xs lo hi = xs := by
      unfold cutD
      rw [h2.length, hh.1, hh.2, List.drop_zero, Nat.sub_zero, ← h2.length, List.take_length]
    rw [hc]
    exact h2
  · have gr := Grow.new (o := .tup (cutV vs lo hi)) e hn
    exact q _ _ _ gr ⟨n, _, rfl, .inl (.inl upd_same), Rps.mono gr.ff _ _ (rps_cut h2 lo hi)⟩
theorem o_slS {lo hi : Option Int} (hl : a.length ≤ 16777216) : OpS K (gSl K) (.str a) lo hi (.str (cutS a lo hi)) := fun F H u e r Q q => .inr (.inr ⟨a, r, sz_of hl, q _ F H (.refl e) rfl⟩)
theorem cutS_S (l : List Nat) (lo hi : Option Int) : cutS (S' l) lo hi = S' (cutD l lo hi) := by
  unfold cutS cutD
  rw [s_len]
theorem o_slSs {l : List Nat} {lo hi : Option Int} (hl : l.length ≤ 16777216) : OpS K (gSl K) (.str (S' l)) lo hi (.str (S' (cutD l lo hi))) := by
  rw [← cutS_S]
  exact o_slS (by rw [s_len]; exact hl)

/-! calls -/
theorem c_lenL : OpN K (gLen P w K) [.lst xs] (.int xs.length) := fun F H us e r Q q => by
  obtain ⟨v, r', rfl, ⟨p, vs, rfl, h1, h2⟩, h3⟩ := r
  have e1 : r' = [] := h3
  subst e1
  exact .inl ⟨p, vs, rfl, .inl (ex_l e h1), q _ F H (.refl e) (by rw [h2.length] <;> rfl)⟩
theorem c_lenT : OpN K (gLen P w K) [.tup xs] (.int xs.length) := fun F H us e r Q q => by
  obtain ⟨v, r', rfl, ⟨p, vs, rfl, h1, h2⟩, h3⟩ := r
  have e1 : r' = [] := h3
  subst e1
  exact .inl ⟨p, vs, rfl, .inr (ex_t e h1), q _ F H (.refl e) (by rw [h2.length] <;> rfl)⟩
theorem rps1 {F : Hp} {us : List V} (r : Rps K F [x] us) : ∃ v, us = [v] ∧ Rp K F x v := by
  obtain ⟨v, r', e, h, h3⟩ := r
  have e1 : r' = [] := h3
  subst e1
  exact ⟨v, e, h⟩
theorem c_lenS (hl : a.length ≤ 16777216) : OpN K (gLen P w K) [.str a] (.int a.length) := fun F H us e r Q q => by
  obtain ⟨v, rfl, h⟩ := rps1 r
  have e1 : v = .str a := h
  subst e1
  exact .inr (.inl ⟨a, rfl, sz_of hl, q _ F H (.refl e) rfl⟩)
theorem c_lenSs {l : List Nat} (hl : l.length ≤ 16777216) : OpN K (gLen P w K) [.str (S' l)] (.int l.length) := by
  have h := c_lenS (K := K) (P := P) (w := w) (a := S' l) (by rw [s_len]; exact hl)
  rw [s_len] at h
  exact h
theorem c_int : OpN K gInt [.int i] (.int i) := fun F H us e r Q q => by
  obtain ⟨v, rfl, h⟩ := rps1 r
  have e1 : v = .int i := h
  subst e1
  exact .inl ⟨i, rfl, q _ F H (.refl e) rfl⟩
theorem c_intB : OpN K gInt [.bl b] (.int (if b then 1 else 0)) := fun F H us e r Q q => by
  obtain ⟨v, rfl, h⟩ := rps1 r
  have e1 : v = .bl b := h
  subst e1
  exact .inr ⟨b, rfl, q _ F H (.refl e) rfl⟩
theorem c_tupL : OpN K (gTuple K) [.lst xs] (.tup xs) := fun F H us e r Q q => by
  obtain ⟨v, rfl, p, vs, rfl, h1, h2⟩ := rps1 r
  refine ⟨p, vs, rfl, .inl ⟨ex_l e h1, fun n hn => ?_⟩⟩
  have gr := Grow.new (o := .tup vs) e hn
  exact q _ _ _ gr ⟨n, vs, rfl, .inl (.inl upd_same), Rps.mono gr.ff _ _ h2⟩
theorem c_tupT : OpN K (gTuple K) [.tup xs] (.tup xs) := fun F H us e r Q q => by
  obtain ⟨v, rfl, p, vs, rfl, h1, h2⟩ := rps1 r
  exact ⟨p, vs, rfl, .inr ⟨ex_t e h1, q _ F H (.refl e) ⟨p, vs, rfl, h1, h2⟩⟩⟩
theorem c_lstL : OpN K (gList K) [.lst xs] (.lst xs) := fun F H us e r Q q => by
  obtain ⟨v, rfl, p, vs, rfl, h1, h2⟩ := rps1 r
  refine ⟨p, vs, rfl, .inl (ex_l e h1), fun n hn => ?_⟩
  have gr := Grow.new (o := .lst vs) e hn
  exact q _ _ _ gr ⟨n, vs, rfl, .inl (.inl upd_same), Rps.mono gr.ff _ _ h2⟩
theorem c_lstT : OpN K (gList K) [.tup xs] (.lst xs) := fun F H us e r Q q => by
  obtain ⟨v, rfl, p, vs, rfl, h1, h2⟩ := rps1 r
  refine ⟨p, vs, rfl, .inr (ex_t e h1), fun n hn => ?_⟩
  have gr := Grow.new (o := .lst vs) e hn
  exact q _ _ _ gr ⟨n, vs, rfl, .inl (.inl upd_same), Rps.mono gr.ff _ _ h2⟩
theorem c_reprL (hp : plain (.lst xs) = true) (h1 : (toPy (.lst xs)).showable = true) (h2 : (toPy (.lst xs)).hasDict = false) (h3 : (toPy (.lst xs)).depth ≤ 60) (h4 : (toPy (.lst xs)).shown.length ≤ 16777216) : OpN K (gRepr K) [.lst xs] (.str (toPy (.lst xs)).shown) := fun F H us e r Q q => by
  obtain ⟨v, rfl, h⟩ := rps1 r
  have hd := Rp.dp _ _ hp (h.mono e)
  obtain ⟨p, vs, rfl, _⟩ := h
  exact .inl ⟨p, _, rfl, hd, h1, h2, h3, sz_of h4, q _ F H (.refl e) rfl⟩
theorem c_reprT (hp : plain (.tup xs) = true) (h1 : (toPy (.tup xs)).showable = true) (h2 : (toPy (.tup xs)).hasDict = false) (h3 : (toPy (.tup xs)).depth ≤ 60) (h4 : (toPy (.tup xs)).shown.length ≤ 16777216) : OpN K (gRepr K) [.tup xs] (.str (toPy (.tup xs)).shown) := fun F H us e r Q q => by
  obtain ⟨v, rfl, h⟩ := rps1 r
  have hd := Rp.dp _ _ hp (h.mono e)
  obtain ⟨p, vs, rfl, _⟩ := h
  exact .inl ⟨p, _, rfl, hd, h1, h2, h3, sz_of h4, q _ F H (.refl e) rfl⟩
theorem c_reprI (h : i.natAbs.log2 < 1920) : OpN K (gRepr K) [.int i] (.str (toString i : String)) := fun F H us e r Q q => by
  obtain ⟨v, rfl, h'⟩ := rps1 r
  have e1 : v = .int i := h'
  subst e1
  exact .inr ⟨i, rfl, h, q _ F H (.refl e) rfl⟩

/-! texts -/
theorem ev_lower (h : Ev K te ds (.str a)) (hl : a.length ≤ 5592405) : Ev K (tM0 (fun x xs H Q => ∃ a, x = .str a ∧ xs = [] ∧ a.length ≤ 5592405 ∧ Q (.str (Txt.lower a)) H) te) ds (.str (Txt.lower a)) := fun F0 H0 F H σ S Q q =>
  h F0 H0 F H σ S _ fun v F1 H1 g1 r => ⟨⟨a, r⟩, a, r, rfl, hl, q _ F1 H1 g1 rfl⟩
theorem ev_upper (h : Ev K te ds (.str a)) (hl : a.length ≤ 5592405) : Ev K (tM0 (fun x xs H Q => ∃ a, x = .str a ∧ xs = [] ∧ a.length ≤ 5592405 ∧ Q (.str (Txt.upper a)) H) te) ds (.str (Txt.upper a)) := fun F0 H0 F H σ S Q q =>
  h F0 H0 F H σ S _ fun v F1 H1 g1 r => ⟨⟨a, r⟩, a, r, rfl, hl, q _ F1 H1 g1 rfl⟩

/-! walks -/
theorem ei_list (h : Ev K te ds (.lst xs)) : EvI K (iAny K te) ds xs := fun F0 H0 F H σ S R q => .inl (h F0 H0 F H σ S _ fun v F1 H1 g1 r => by
  obtain ⟨p, vs, rfl, h1, h2⟩ := r
  refine ⟨p, rfl, ⟨vs, ex_l g1.fh h1⟩, q _ F1 H1 _ _ g1 (h2.length ▸ walk_list (K := K) (a := p) (xs := vs)) (fun F' H' e1 e2 => ex_l e2 (ex_l e1 h1)) fun i x F' H' H'' d e1 e2 hd y => ?_⟩
  obtain ⟨rfl, hx⟩ := y
  obtain ⟨w', e3, r3⟩ := h2.get hd
  rw [hx] at e3
  cases e3
  exact ⟨F', .refl e2, r3.mono e1⟩)
theorem ei_tup (h : Ev K te ds (.tup xs)) : EvI K (iAny K te) ds xs := fun F0 H0 F H σ S R q => .inr (.inl (h F0 H0 F H σ S _ fun v F1 H1 g1 r => by
  obtain ⟨p, vs, rfl, h1, h2⟩ := r
  refine ⟨p, rfl, ⟨vs, ex_t g1.fh h1⟩, q _ F1 H1 _ _ g1 (h2.length ▸ walk_tup (K := K) (a := p) (xs := vs)) (fun F' H' e1 e2 => ex_t e2 (ex_t e1 h1)) fun i x F' H' H'' d e1 e2 hd y => ?_⟩
  obtain ⟨rfl, hx⟩ := y
  obtain ⟨w', e3, r3⟩ := h2.get hd
  rw [hx] at e3
  cases e3
  exact ⟨F', .refl e2, r3.mono e1⟩))
abbrev sgn (c : Nat) : D := .str ⟨#[c]⟩
theorem ei_str {l : List Nat} (h : Ev K te ds (.str (S' l))) : EvI K (iAny K te) ds (l.map sgn) := fun F0 H0 F H σ S R q => .inr (.inr (h F0 H0 F H σ S _ fun v F1 H1 g1 r => by
  have e1 : v = .str (S' l) := r
  subst e1
  have hn : (S' l).cps.size = (l.map sgn).length := by simp
  refine ⟨S' l, rfl, q _ F1 H1 _ _ g1 (hn ▸ walk_str (z := S' l)) (fun _ _ _ _ => trivial) fun i x F' H' H'' d e1 e2 hd y => ?_⟩
  obtain ⟨rfl, k, hk, rfl⟩ := y
  rw [List.getElem?_map] at hd
  have hk' : l[i]? = some k := by simpa using hk
  rw [hk'] at hd
  cases hd
  exact ⟨F', .refl e2, rfl⟩))
theorem ei_range1 {n : Int} (h : EvA K tr ds [.int n]) (hn : n < 2 ^ 62) (hn' : -(2 ^ 62) ≤ n) : EvI K (iRng1 tr) ds ((List.range n.toNat).map fun i => .int (i : Nat)) := fun F0 H0 F H σ S R q => h F0 H0 F H σ S _ fun vs F1 H1 g1 r => by
  obtain ⟨v, rfl, h1⟩ := rps1 r
  have e1 : v = .int n := h1
  subst e1
  have hl : ((List.range n.toNat).map fun i => D.int (i : Nat)).length = n.toNat := by simp
  refine ⟨n, rfl, hn', hn, q _ F1 H1 (fun _ => True) (YFn fun i => .int (0 + i)) g1 (hl.symm ▸ walk_range (lo := 0) (n := n.toNat)) (fun _ _ _ _ => trivial) fun i x F' H' H'' d e1 e2 hd y => ?_⟩
  obtain ⟨rfl, rfl⟩ := y
  rw [List.getElem?_map] at hd
  cases e : (List.range n.toNat)[i]? with
  | none => rw [e] at hd; cases hd
  | some m =>
    rw [e] at hd
    cases hd
    obtain ⟨_, e5⟩ := List.getElem?_eq_some_iff.mp e
    rw [List.getElem_range] at e5
    subst e5
    exact ⟨F', .refl e2, by show V.int (0 + (i : Int)) = _; rw [Int.zero_add]⟩
theorem ei_range2 {lo n : Int} (h : EvA K tr ds [.int lo, .int n]) (hb : -(2 ^ 62) ≤ lo ∧ lo < 2 ^ 62 ∧ -(2 ^ 62) ≤ n ∧ n < 2 ^ 62) : EvI K (iRng2 tr) ds ((List.range (n - lo).toNat).map fun i => .int (lo + (i : Nat))) := fun F0 H0 F H σ S R q => h F0 H0 F H σ S _ fun vs F1 H1 g1 r => by
  obtain ⟨v, r', rfl, h1, v2, r2, rfl, h2, h3⟩ := r
  have e0 : r2 = [] := h3
  have e1 : v = .int lo := h1
  have e2 : v2 = .int n := h2
  subst e0 e1 e2
  have hl : ((List.range (n - lo).toNat).map fun i => D.int (lo + (i : Nat))).length = (n - lo).toNat := by simp
  refine ⟨lo, n, rfl, hb, q _ F1 H1 (fun _ => True) (YFn fun i => .int (lo + i)) g1 (hl.symm ▸ walk_range (lo := lo) (n := (n - lo).toNat)) (fun _ _ _ _ => trivial) fun i x F' H' H'' d e1 e2 hd y => ?_⟩
  obtain ⟨rfl, rfl⟩ := y
  rw [List.getElem?_map] at hd
  cases e : (List.range (n - lo).toNat)[i]? with
  | none => rw [e] at hd; cases hd
  | some m =>
    rw [e] at hd
    cases hd
    obtain ⟨_, e5⟩ := List.getElem?_eq_some_iff.mp e
    rw [List.getElem_range] at e5
    subst e5
    exact ⟨F', .refl e2, rfl⟩
end data
end Sym

/-! Sym7: dicts in slots, peeking at a changing list, further rules by data. -/
namespace Sym
open PySem PySem.Spec PyProof.Rows L2 Evl
/-! ### dicts as lists of pairs -/
section kv
variable {κ : Type} [DecidableEq κ]
def gV {β : Type} (kvs : List (κ × β)) (k : κ) : Option β := (kvs.find? fun kv => decide (kv.1 = k)).map (·.2)
def pV {β : Type} (kvs : List (κ × β)) (k : κ) (v : β) : List (κ × β) := if (kvs.any fun kv => decide (kv.1 = k)) = true then kvs.map (fun kv => if kv.1 = k then (kv.1, v) else kv) else kvs ++ [(k, v)]
theorem gV_nil {β : Type} {k : κ} : gV ([] : List (κ × β)) k = none := rfl
theorem gV_cons {β : Type} {p : κ × β} {r : List (κ × β)} {k : κ} : gV (p :: r) k = if p.1 = k then some p.2 else gV r k := by
  unfold gV
  rw [List.find?_cons]
  by_cases e : p.1 = k
  · simp [e]
  · simp [e]
theorem gV_any {β : Type} (k : κ) : ∀ kvs : List (κ × β), (kvs.any fun kv => decide (kv.1 = k)) = (gV kvs k).isSome
  | [] => rfl
  | p :: r => by
    rw [List.any_cons, gV_cons, gV_any k r]
    by_cases e : p.1 = k
    · simp [e]
    · simp [e]
theorem gV_map {β : Type} (k j : κ) (y : β) : ∀ kvs : List (κ × β), gV (kvs.map fun kv => if kv.1 = k then (kv.1, y) else kv) j = (gV kvs j).map fun x => if j = k then y else x
  | [] => rfl
  | p :: r => by
    rw [List.map_cons, gV_cons, gV_cons, gV_map k j y r]
    by_cases e : p.1 = k
    · by_cases e2 : k = j
      · simp [e, e2]
      · have e3 : ¬ j = k := fun z => e2 z.symm
        simp [e, e2, e3]
    · by_cases e2 : p.1 = j
      · have e3 : ¬ j = k := fun z => e (e2.trans z)
        rw [if_neg e, if_pos e2, if_pos e2]
        simp [e3]
      · simp [e, e2]
theorem gV_snoc {β : Type} (k j : κ) (y : β) : ∀ kvs : List (κ × β), gV kvs k = none → gV (kvs ++ [(k, y)]) j = if j = k then some y else gV kvs j
  | [], _ => by
    rw [List.nil_append, gV_cons]
    by_cases e : k = j
    · simp [e]
    · have e2 : ¬ j = k := fun z => e z.symm
      simp [e, e2]
  | p :: r, h => by
    rw [gV_cons] at h
    by_cases e : p.1 = k
    · rw [if_pos e] at h; cases h
    · rw [if_neg e] at h
      rw [List.cons_append, gV_cons, gV_cons, gV_snoc k j y r h]
      by_cases e2 : p.1 = j
      · have e3 : ¬ j = k := fun z => e (e2.trans z)
        simp [e2, e3]
      · simp [e2]
theorem gV_put {β : Type} (kvs : List (κ × β)) (k j : κ) (y : β) : gV (pV kvs k y) j = if j = k then some y else gV kvs j := by
  unfold pV
  rw [gV_any]
  cases h : gV kvs k with
  | none => rw [if_neg (by simp)]; exact gV_snoc k j y kvs h
  | some x =>
    rw [if_pos (by simp), gV_map]
    by_cases e : j = k
    · subst e
      rw [h]
      simp
    · simp [e]
theorem pV_len {β : Type} (kvs : List (κ × β)) (k : κ) (y : β) : (pV kvs k y).length ≤ kvs.length + 1 := by
  unfold pV
  split <;> simp
theorem pV_new {β : Type} {kvs : List (κ × β)} {k : κ} {y : β} (h : gV kvs k = none) : pV kvs k y = kvs ++ [(k, y)] := by
  unfold pV
  rw [gV_any, h]
  rfl
theorem gV_none {β : Type} {kvs : List (κ × β)} {k : κ} : gV kvs k = none ↔ k ∉ kvs.map (·.1) := by
  induction kvs with
  | nil => simp [gV_nil]
  | cons p r ih =>
    rw [gV_cons, List.map_cons, List.mem_cons]
    by_cases e : p.1 = k
    · simp [e]
    · have e2 : ¬ k = p.1 := fun z => e z.symm
      simp [e, e2, ih]
theorem pV_keys {β : Type} {kvs : List (κ × β)} {k : κ} {y : β} : (pV kvs k y).map (·.1) = if k ∈ kvs.map (·.1) then kvs.map (·.1) else kvs.map (·.1) ++ [k] := by
  unfold pV
  rw [gV_any]
  by_cases h : k ∈ kvs.map (·.1)
  · have : (gV kvs k).isSome = true := by
      cases q : gV kvs k with
      | none => exact absurd h (gV_none.mp q)
      | some _ => rfl
    rw [if_pos this, if_pos h, List.map_map]
    apply List.map_congr_left
    intro a _
    show (if a.1 = k then (a.1, y) else a).1 = a.1
    split <;> rfl
  · rw [gV_none.mpr h, if_neg (by simp), if_neg h, List.map_append] <;> rfl
theorem valV_gV (kvs : List (κ × V)) (k : κ) : valV kvs k = gV kvs k := rfl
theorem putK_pV (kvs : List (κ × V)) (k : κ) (v : V) : putK kvs k v = pV kvs k v := rfl
end kv
section
variable {K : PySem.W.Frag} {κ : Type} [DecidableEq κ] {F : Hp}
theorem Kvs.len {kvs : List (κ × D)} {ws : List (κ × V)} (h : Kvs K F kvs ws) : kvs.length = ws.length := h.length
theorem Kvs.get {kvs : List (κ × D)} {ws : List (κ × V)} (h : Kvs K F kvs ws) (k : κ) : (match gV kvs k, gV ws k with | none, none => True | some d, some v => Rp K F d v | _, _ => False) := by
  induction h with
  | nil => trivial
  | @cons p q ps qs r t ih =>
    rw [gV_cons, gV_cons, ← r.1]
    by_cases e : p.1 = k
    · rw [if_pos e, if_pos e]
      exact r.2
    · rw [if_neg e, if_neg e]
      exact ih
theorem Kvs.some {kvs : List (κ × D)} {ws : List (κ × V)} (h : Kvs K F kvs ws) {k : κ} {d : D} (e : gV kvs k = some d) : ∃ v, gV ws k = Option.some v ∧ Rp K F d v := by
  have m := h.get k
  rw [e] at m
  cases q : gV ws k with
  | none => rw [q] at m; exact m.elim
  | some v => rw [q] at m; exact ⟨v, rfl, m⟩
theorem Kvs.isSome {kvs : List (κ × D)} {ws : List (κ × V)} (h : Kvs K F kvs ws) (k : κ) : (gV kvs k).isSome = (gV ws k).isSome := by
  have m := h.get k
  cases p : gV kvs k <;> cases q : gV ws k <;> rw [p, q] at m <;> first | rfl | exact m.elim
theorem Kvs.put {kvs : List (κ × D)} {ws : List (κ × V)} (h : Kvs K F kvs ws) (k : κ) {d : D} {v : V} (r : Rp K F d v) : Kvs K F (pV kvs k d) (pV ws k v) := by
  have hs := h.isSome k
  unfold pV
  rw [gV_any, gV_any, hs]
  split
  · have go : ∀ {kvs : List (κ × D)} {ws : List (κ × V)}, Kvs K F kvs ws → Kvs K F (kvs.map fun kv => if kv.1 = k then (kv.1, d) else kv) (ws.map fun kv => if kv.1 = k then (kv.1, v) else kv) := by
      intro kvs ws h
      induction h with
      | nil => exact .nil
      | @cons p q ps qs rr t ih =>
        refine .cons ?_ ih
        dsimp only
        rw [← rr.1]
        by_cases e : p.1 = k
        · rw [if_pos e, if_pos e]
          exact ⟨rfl, r⟩
        · rw [if_neg e, if_neg e]
          exact ⟨rr.1, rr.2⟩
    exact go h
  · exact Paired.snoc h ⟨rfl, r⟩
end
theorem atW_gV (ws : WK) (k : NestedKey) : (atW ws k).map (·.2) = gV (kvW ws) k := by
  unfold atW gV kvW
  induction ws with
  | nil => rfl
  | cons e r ih =>
    rw [List.map_cons, List.find?_cons, List.find?_cons]
    by_cases h : e.1 = k
    · simp [h]
    · simp only [h, decide_false]
      exact ih
theorem atW_isSome (ws : WK) (k : NestedKey) : (atW ws k).isSome = (gV (kvW ws) k).isSome := by rw [← atW_gV, Option.isSome_map]
theorem kvW_st (ws : WK) (k : NestedKey) (t : Addr) (v : V) : kvW (stW ws k t v) = pV (kvW ws) k v := by
  unfold stW pV
  rw [gV_any, ← atW_isSome]
  split
  · unfold kvW
    rw [List.map_map, List.map_map]
    apply List.map_congr_left
    intro a _
    show (fun e : NestedKey × Addr × V => (e.1, e.2.2)) (if a.1 = k then (a.1, a.2.1, v) else a) = if a.1 = k then (a.1, v) else (a.1, a.2.2)
    by_cases h : a.1 = k
    · rw [if_pos h, if_pos h]
    · rw [if_neg h, if_neg h]
  · unfold kvW
    rw [List.map_append] <;> rfl
def kD : Key → D
  | .inl i => .int i
  | .inr x => .str x
theorem rp_key {K : PySem.W.Frag} {F : Hp} : ∀ {k : Key} {v : V}, Rp K F (kD k) v → v = kV k
  | .inl i, v, h => h
  | .inr x, v, h => h
/-- a key's data: a tuple -/
def tKey (ks : List NestedKey) : D := nkD (.tup ks)

section
variable {P : Program} {w : World} {K : PySem.W.Frag} {E : XK} {ds ds' : Env'} {te ta tb tc td tx : TE} {x y z d : D} {t u : TT} {tr : TA} {xs ys : List D} {b c : Bool} {tu tw tz : TS} {Po : Post} {g : TG} {ti : TI} {i j : Nat} {kvs : List (Key × D)} {nvs : List (NestedKey × D)} {k : Key} {ks : List NestedKey}
theorem key_ok {F : Hp} {v : V} (h : Rp K F (tKey ks) v) (hd : (NestedKey.tup ks).depth ≤ 8) : KeyV K F (.tup ks) v := by
  have h' : Rp K F (nkD (.tup ks)) v := h
  obtain ⟨a, vs, e, h2, h3⟩ := h
  exact ⟨a, e, by rw [e] at h'; exact h', hd⟩
theorem Sd.dn {F0 H0 F H : Hp} {σ : L2.St} (S : Sd K F0 H0 F H σ ds) (hi : ds[i]? = some (some (.mn P w nvs))) : ∃ a ws, σ[i]? = some (some (.ref a)) ∧ H0 a = none ∧ F a = none ∧ DNat P w K H a ws ∧ Kvs K F nvs (kvW ws) ∧ ∀ e ∈ ws, KeyOk K F e.1 e.2.1 := by
  obtain ⟨v, h1, a, ws, rfl, h0, hF, hH, hk, hok⟩ := S.at' i _ hi
  exact ⟨a, ws, h1, h0, hF, ⟨hH, fun e he => (hok e he).mono S.fh⟩, hk, hok⟩
/-- x = {} -/
theorem run_newK (kk : Po.nx (ds.set i (some (.mk [])))) : Run K E (tAsg (tDict P w) (gName i)) ds Po := fun F0 H0 F H σ Dn S W =>
  .inl fun p hp => W.nx _ _ _ _ kk (S.newM hp ⟨p, [], rfl, fresh_back S.gr.hh hp, fresh_back S.fh hp, upd_same, .nil⟩) (Ex.refl F)
theorem run_newN (kk : Po.nx (ds.set i (some (.mn P w [])))) : Run K E (tAsg (tDict P w) (gName i)) ds Po := fun F0 H0 F H σ Dn S W =>
  .inr fun p hp => W.nx _ _ _ _ kk (S.newM hp ⟨p, [], rfl, fresh_back S.gr.hh hp, fresh_back S.fh hp, upd_same, .nil, fun e he => by cases he⟩) (Ex.refl F)
theorem q_newK (kk : Run K E tz (ds.set i (some (.mk []))) Po) : Run K E (tSeq (tAsg (tDict P w) (gName i)) tz) ds Po := run_seq (run_newK kk)
theorem q_newN (kk : Run K E tz (ds.set i (some (.mn P w []))) Po) : Run K E (tSeq (tAsg (tDict P w) (gName i)) tz) ds Po := run_seq (run_newN kk)
theorem ev_inK (hi : ds[i]? = some (some (.mk kvs))) (h : Ev K te ds (kD k)) : Ev K (tOp (gIn P w K) te (tVar i)) ds (.bl (gV kvs k).isSome) := fun F0 H0 F H σ S Q q => h F0 H0 F H σ S _ fun u F1 H1 g1 r1 => by
  obtain ⟨v, h1, a, ws, rfl, h0, hF, hH, hk⟩ := S.at' i _ hi
  have hH1 := g1.hh _ _ hH
  have hk1 := hk.mono g1.ff
  refine ⟨_, h1, .inr (.inr (.inl ⟨a, ws, k, rfl, hH1, rp_key r1, ?_⟩))⟩
  have e : (gV kvs k).isSome = (valV ws k).isSome := hk1.isSome k
  exact q _ F1 H1 g1 (by rw [e]; rfl)
theorem ev_notInK (hi : ds[i]? = some (some (.mk kvs))) (h : Ev K te ds (kD k)) : Ev K (tOp (gNotIn P w K) te (tVar i)) ds (.bl (!(gV kvs k).isSome)) := fun F0 H0 F H σ S Q q => h F0 H0 F H σ S _ fun u F1 H1 g1 r1 => by
  obtain ⟨v, h1, a, ws, rfl, h0, hF, hH, hk⟩ := S.at' i _ hi
  have hH1 := g1.hh _ _ hH
  have hk1 := hk.mono g1.ff
  refine ⟨_, h1, .inr (.inr (.inl ⟨a, ws, k, rfl, hH1, rp_key r1, ?_⟩))⟩
  have e : (gV kvs k).isSome = (valV ws k).isSome := hk1.isSome k
  exact q _ F1 H1 g1 (by rw [e]; rfl)
theorem ev_getK (hi : ds[i]? = some (some (.mk kvs))) (h : Ev K te ds (kD k)) (hg : gV kvs k = some d) : Ev K (tIx P w K (tVar i) te) ds d := fun F0 H0 F H σ S Q q => by
  obtain ⟨v, h1, a, ws, rfl, h0, hF, hH, hk⟩ := S.at' i _ hi
  refine .inr (.inl ⟨_, h1, h F0 H0 F H σ S _ fun u F1 H1 g1 r1 => ?_⟩)
  obtain ⟨v, e1, r⟩ := (hk.mono g1.ff).some hg
  refine ⟨a, v, rfl, ?_, q v F1 H1 g1 r⟩
  rw [rp_key r1, ← e1, ← valV_gV]
  exact DGet.k (g1.hh _ _ hH)
theorem ev_get2K (hi : ds[i]? = some (some (.mk kvs))) (h : Ev K te ds (kD k)) (hx : Ev K tx ds z) : Ev K (tGet2 P w K (tVar i) te tx) ds ((gV kvs k).getD z) := fun F0 H0 F H σ S Q q => by
  obtain ⟨v, h1, a, ws, rfl, h0, hF, hH, hk⟩ := S.at' i _ hi
  refine .inl ⟨_, h1, a, rfl, .inl ⟨ws, .inl hH⟩, h F0 H0 F H σ S _ fun u F1 H1 g1 r1 => hx F0 H0 F1 H1 σ (S.grow g1) _ fun u2 F2 H2 g2 r2 => ?_⟩
  refine ⟨valV ws k, ?_, ?_⟩
  · rw [rp_key r1]
    exact DGet.k (g2.hh _ _ (g1.hh _ _ hH))
  · refine q _ F2 H2 (g1.trans g2) ?_
    have hk2 := (hk.mono g1.ff).mono g2.ff
    have m := hk2.get k
    rw [valV_gV]
    cases p : gV kvs k <;> cases q : gV ws k <;> rw [p, q] at m
    · exact r2
    · exact m.elim
    · exact m.elim
    · exact m
theorem run_putK (hi : ds[i]? = some (some (.mk kvs))) (hv : Ev K tc ds d) (hy : Ev K te ds (kD k)) (hl : kvs.length < 16777216) (kk : Po.nx (ds.set i (some (.mk (pV kvs k d))))) : Run K E (sPut P w K (tVar i) te tc) ds Po := fun F0 H0 F H σ Dn S W => by
  refine .inl (hv F0 H0 F H σ S _ fun u F1 H1 g1 r1 => ?_)
  obtain ⟨v, h1, a, ws, rfl, h0, hF, hH, hk⟩ := S.at' i _ hi
  refine ⟨_, h1, hy F0 H0 F1 H1 σ (S.grow g1) _ fun u2 F2 H2 g2 r2 => ?_⟩
  have g := g1.trans g2
  have hH2 := g.hh _ _ hH
  have hF2 := none_grow g hF hH
  refine ⟨a, _, rfl, rp_key r2 ▸ DPut.k (k := k) (v := u) hH2 (by rw [sizeLine_eq, ← hk.len]; exact hl), W.nx _ _ _ _ kk ((S.grow g).wr hi rfl h1 hF2 h0 ⟨a, _, rfl, h0, hF2, upd_same, (hk.mono g.ff).put k (r1.mono g2.ff)⟩ rfl) g.ff⟩
/-! nested keys -/
theorem ev_inN (hi : ds[i]? = some (some (.mn P w nvs))) (h : Ev K te ds (tKey ks)) (hd : (NestedKey.tup ks).depth ≤ 8 := by decide) : Ev K (tOp (gIn P w K) te (tVar i)) ds (.bl (gV nvs (.tup ks)).isSome) := fun F0 H0 F H σ S Q q => h F0 H0 F H σ S _ fun u F1 H1 g1 r1 => by
  obtain ⟨a, ws, h1, h0, hF, hD, hk, hok⟩ := (S.grow g1).dn hi
  refine ⟨_, h1, .inr (.inr (.inr (.inl ⟨a, ws, .tup ks, rfl, hD, key_ok (r1.mono g1.fh) hd, q _ F1 H1 g1 ?_⟩)))⟩
  rw [hk.isSome, ← atW_isSome] <;> rfl
theorem ev_notInN (hi : ds[i]? = some (some (.mn P w nvs))) (h : Ev K te ds (tKey ks)) (hd : (NestedKey.tup ks).depth ≤ 8 := by decide) : Ev K (tOp (gNotIn P w K) te (tVar i)) ds (.bl (!(gV nvs (.tup ks)).isSome)) := fun F0 H0 F H σ S Q q => h F0 H0 F H σ S _ fun u F1 H1 g1 r1 => by
  obtain ⟨a, ws, h1, h0, hF, hD, hk, hok⟩ := (S.grow g1).dn hi
  refine ⟨_, h1, .inr (.inr (.inr (.inl ⟨a, ws, .tup ks, rfl, hD, key_ok (r1.mono g1.fh) hd, q _ F1 H1 g1 ?_⟩)))⟩
  rw [hk.isSome, ← atW_isSome] <;> rfl
theorem ev_getN (hi : ds[i]? = some (some (.mn P w nvs))) (h : Ev K te ds (tKey ks)) (hg : gV nvs (.tup ks) = some d) (hd : (NestedKey.tup ks).depth ≤ 8 := by decide) : Ev K (tIx P w K (tVar i) te) ds d := fun F0 H0 F H σ S Q q => by
  obtain ⟨a, ws, h1, h0, hF, hD, hk, hok⟩ := S.dn hi
  refine .inr (.inr ⟨_, h1, h F0 H0 F H σ S _ fun u F1 H1 g1 r1 => ?_⟩)
  obtain ⟨a', ws', h1', h0', hF', hD', hk', hok'⟩ := (S.grow g1).dn hi
  rw [h1] at h1'
  cases h1'
  obtain ⟨v, e1, r⟩ := hk'.some hg
  rw [← atW_gV] at e1
  obtain ⟨p, e2, e3⟩ := Option.map_eq_some_iff.mp e1
  exact ⟨a, ws', .tup ks, p, rfl, hD', key_ok (r1.mono g1.fh) hd, e2, q _ F1 H1 g1 (by rw [e3]; exact r)⟩
theorem ev_get2N (hi : ds[i]? = some (some (.mn P w nvs))) (h : Ev K te ds (tKey ks)) (hx : Ev K tx ds z) (hd : (NestedKey.tup ks).depth ≤ 8 := by decide) : Ev K (tGet2 P w K (tVar i) te tx) ds ((gV nvs (.tup ks)).getD z) := fun F0 H0 F H σ S Q q => by
  obtain ⟨a, ws, h1, h0, hF, hD, hk, hok⟩ := S.dn hi
  refine .inr ⟨_, h1, ⟨a, ws, rfl, hD⟩, h F0 H0 F H σ S _ fun u F1 H1 g1 r1 => hx F0 H0 F1 H1 σ (S.grow g1) _ fun u2 F2 H2 g2 r2 => ?_⟩
  obtain ⟨a', ws', h1', h0', hF', hD', hk', hok'⟩ := (S.grow (g1.trans g2)).dn hi
  rw [h1] at h1'
  cases h1'
  refine ⟨a, ws', .tup ks, rfl, hD', key_ok ((r1.mono g2.ff).mono g2.fh) hd, q _ F2 H2 (g1.trans g2) ?_⟩
  have m := hk'.get (.tup ks)
  rw [atW_gV]
  cases p : gV nvs (.tup ks) <;> cases q : gV (kvW ws') (.tup ks) <;> rw [p, q] at m
  · exact r2
  · exact m.elim
  · exact m.elim
  · exact m
theorem run_putN (hi : ds[i]? = some (some (.mn P w nvs))) (hv : Ev K tc ds d) (hy : Ev K te ds (tKey ks)) (hl : nvs.length < 16777216) (kk : Po.nx (ds.set i (some (.mn P w (pV nvs (.tup ks) d))))) (hd : (NestedKey.tup ks).depth ≤ 8 := by decide) : Run K E (sPut P w K (tVar i) te tc) ds Po := fun F0 H0 F H σ Dn S W => by
  refine .inr (.inl (hv F0 H0 F H σ S _ fun u F1 H1 g1 r1 => ?_))
  obtain ⟨a, ws, h1, h0, hF, hD, hk, hok⟩ := (S.grow g1).dn hi
  refine ⟨_, h1, hy F0 H0 F1 H1 σ (S.grow g1) _ fun u2 F2 H2 g2 r2 => ?_⟩
  have g := g1.trans g2
  obtain ⟨a', ws', h1', h0', hF', hD', hk', hok'⟩ := (S.grow g).dn hi
  rw [h1] at h1'
  cases h1'
  obtain ⟨tt, rfl, ko⟩ := key_ok (K := K) r2 hd
  refine ⟨a, ws', .tup ks, tt, rfl, hD', rfl, ko.mono g2.fh, by rw [sizeLine_eq]; have := hk'.len; unfold kvW at this; rw [List.length_map] at this; omega, W.nx _ _ _ _ kk ((S.grow g).wr hi rfl h1 hF' h0 ⟨a, _, rfl, h0, hF', upd_same, ?_, fun e he => ?_⟩ rfl) g.ff⟩
  · rw [kvW_st]
    exact hk'.put _ (r1.mono g2.ff)
  · rcases stW_keys he with ⟨f, hf, e1, e2⟩ | ⟨e1, e2⟩
    · rw [← e1, ← e2]
      exact hok' f hf
    · rw [e1, e2]
      exact ko
/-! len -/
theorem ev_lenL {xs : List D} (hi : ds[i]? = some (some (.ml xs))) : Ev K (tCB (gLen P w K) (tCons (tVar i) tNil)) ds (.int xs.length) := fun F0 H0 F H σ S Q q => by
  obtain ⟨v, h1, a, vs, rfl, h0, hF, hH, hr⟩ := S.at' i _ hi
  exact ⟨_, h1, .inl ⟨a, vs, rfl, .inl (.inl (.inl hH)), q _ F H (.refl S.fh) (by rw [hr.length] <;> rfl)⟩⟩
theorem ev_lenK (hi : ds[i]? = some (some (.mk kvs))) : Ev K (tCB (gLen P w K) (tCons (tVar i) tNil)) ds (.int kvs.length) := fun F0 H0 F H σ S Q q => by
  obtain ⟨v, h1, a, vs, rfl, h0, hF, hH, hr⟩ := S.at' i _ hi
  exact ⟨_, h1, .inr (.inr (.inl ⟨a, vs, rfl, hH, q _ F H (.refl S.fh) (by rw [hr.len] <;> rfl)⟩))⟩
theorem ev_lenN (hi : ds[i]? = some (some (.mn P w nvs))) : Ev K (tCB (gLen P w K) (tCons (tVar i) tNil)) ds (.int nvs.length) := fun F0 H0 F H σ S Q q => by
  obtain ⟨a, ws, h1, h0, hF, hD, hk, hok⟩ := S.dn hi
  exact ⟨_, h1, .inr (.inr (.inr ⟨a, ws, rfl, hD, q _ F H (.refl S.fh) (by have := hk.len; unfold kvW at this; rw [List.length_map] at this; rw [this] <;> rfl)⟩))⟩
/-- xs[n] = v -/
theorem run_putL {xs : List D} {n : Int} {m : Nat} (hi : ds[i]? = some (some (.ml xs))) (hv : Ev K tc ds d) (hy : Ev K te ds (.int n)) (hn : ixN xs.length n = some m) (kk : Po.nx (ds.set i (some (.ml (xs.set m d))))) : Run K E (sPut P w K (tVar i) te tc) ds Po := fun F0 H0 F H σ Dn S W => by
  refine .inr (.inr (hv F0 H0 F H σ S _ fun u F1 H1 g1 r1 => ?_))
  obtain ⟨v, h1, a, vs, rfl, h0, hF, hH, hr⟩ := S.at' i _ hi
  refine ⟨_, h1, hy F0 H0 F1 H1 σ (S.grow g1) _ fun u2 F2 H2 g2 r2 => ?_⟩
  have g := g1.trans g2
  have hH2 := g.hh _ _ hH
  have hF2 := none_grow g hF hH
  exact ⟨a, vs, n, m, rfl, r2, hH2, by rw [← hr.length]; exact hn, W.nx _ _ _ _ kk ((S.grow g).wr hi rfl h1 hF2 h0 ⟨a, _, rfl, h0, hF2, upd_same, Rps.set (r1.mono g2.ff) m (Rps.mono g.ff _ _ hr)⟩ rfl) g.ff⟩
end
end Sym

/-! Sym8: peeking, sorted, join, index, chains, zip, enumerate, callees. -/
namespace Sym
open PySem PySem.Spec PyProof.Rows L2 Evl
def scal : D → Bool
  | .non => true
  | .bl _ => true
  | .int _ => true
  | .str _ => true
  | _ => false
theorem rp_scal {K : PySem.W.Frag} {F F' : Hp} : ∀ {d : D} {v : V}, scal d = true → Rp K F d v → Rp K F' d v
  | .non, _, _, h => h
  | .bl _, _, _, h => h
  | .int _, _, _, h => h
  | .str _, _, _, h => h
section
variable {P : Program} {w : World} {K : PySem.W.Frag} {E : XK} {ds ds' : Env'} {te ta tb tc td tx : TE} {x y z d : D} {t u : TT} {tr : TA} {xs ys : List D} {b c : Bool} {tu tw tz : TS} {Po : Post} {g : TG} {ti : TI} {i j : Nat}
/-- a state in which the changing list at i is frozen; what grows behind it grows behind the state itself -/
theorem Sd.peek {F0 H0 F H : Hp} {σ : L2.St} (S : Sd K F0 H0 F H σ ds) (hi : ds[i]? = some (some (.ml xs))) : ∃ F', Sd K F0 H0 F' H σ (ds.set i (some (.im (.lst xs)))) ∧ ∀ F1 H1, Grow F' H F1 H1 → ∃ F2, Grow F H F2 H1 := by
  have hil : i < ds.length := (List.getElem?_eq_some_iff.mp hi).1
  obtain ⟨v, h1, a, vs, rfl, h0, hF, hH, hr⟩ := S.at' i _ hi
  have run : ∀ Q : Hp → Prop, (∀ F', Sd K F0 H0 F' H σ (ds.set i (some (.im (.lst xs)))) → Ex F F' → (∀ b, F' b = none → F b = none) → (∀ b, b ≠ a → F' b = F b) → Q F') → ∃ F', Q F' := by
    intro Q hQ
    have ff : Ex F (upd F a (.lst vs)) := Ex.new hF
    have up : ∀ b, b ≠ a → upd F a (.lst vs) b = F b := fun b hb => upd_ne hb
    refine ⟨upd F a (.lst vs), hQ _ ⟨⟨S.gr.ff.trans ff, S.gr.hh, fun b o e => ?_, fun b o e1 e2 e3 => ?_⟩, by simp [S.len], fun j t e => ?_, fun j k t u b e1 e2 m1 m2 q1 q2 => ?_⟩ ff (fun b hb => ?_) up⟩
    · by_cases hb : b = a
      · subst hb
        rw [upd_same] at e
        cases e
        exact hH
      · rw [up b hb] at e
        exact S.fh b o e
    · by_cases hb : b = a
      · subst hb
        rw [h0] at e2
        cases e2
      · rw [up b hb]
        exact S.gr.nw b o e1 e2 e3
    · by_cases hj : i = j
      · subst hj
        rw [List.getElem?_set_self hil] at e
        cases e
        exact ⟨_, h1, a, vs, rfl, .inl (.inl upd_same), Rps.mono ff _ _ hr⟩
      · rw [List.getElem?_set_ne hj] at e
        obtain ⟨v, p1, p2⟩ := S.at' j t e
        refine ⟨v, p1, ?_⟩
        have ne : ∀ {b : Addr}, t.mut = true → v = .ref b → b ≠ a := fun {b} mt ev z => hj (S.ap i j _ t a hi e rfl mt h1 (by rw [p1, ev, z]))
        cases t with
        | im d => exact Rp.mono ff _ _ p2
        | ml ys => obtain ⟨b, vs, q1, q2, q3, q4, q5⟩ := p2; exact ⟨b, vs, q1, q2, by rw [up b (ne rfl q1)]; exact q3, q4, Rps.mono ff _ _ q5⟩
        | mk ys => obtain ⟨b, vs, q1, q2, q3, q4, q5⟩ := p2; exact ⟨b, vs, q1, q2, by rw [up b (ne rfl q1)]; exact q3, q4, q5.mono ff⟩
        | mn _ _ ys => obtain ⟨b, vs, q1, q2, q3, q4, q5, q6⟩ := p2; exact ⟨b, vs, q1, q2, by rw [up b (ne rfl q1)]; exact q3, q4, q5.mono ff, fun e he => (q6 e he).mono ff⟩
    · have back : ∀ {j : Nat} {t : Sym.S}, (ds.set i (some (.im (.lst xs))))[j]? = some (some t) → t.mut = true → ds[j]? = some (some t) := fun {j t} e mt => by
        by_cases hj : i = j
        · subst hj
          rw [List.getElem?_set_self hil] at e
          cases e
          cases mt
        · rw [List.getElem?_set_ne hj] at e
          exact e
      exact S.ap j k t u b (back e1 m1) (back e2 m2) m1 m2 q1 q2
    · by_cases q : b = a
      · rw [q]; exact hF
      · rw [up b q] at hb
        exact hb
  obtain ⟨F', hq⟩ := run (fun F' => Sd K F0 H0 F' H σ (ds.set i (some (.im (.lst xs)))) ∧ ∀ F1 H1, Grow F' H F1 H1 → ∃ F2, Grow F H F2 H1) fun F' s e1 e2 e3 => ⟨s, fun F1 H1 gr => by
    refine ⟨fun b => if b = a then none else F1 b, fun b o hb => ?_, gr.hh, fun b o hb => ?_, fun b o n1 n2 n3 => ?_⟩
    · have ne : b ≠ a := fun q => by rw [q, hF] at hb; cases hb
      show (if b = a then none else F1 b) = some o
      rw [if_neg ne]
      exact gr.ff _ _ (e1 _ _ hb)
    · by_cases q : b = a
      · simp [q] at hb
      · simp only [if_neg q] at hb
        exact gr.fh _ _ hb
    · show (if b = a then none else F1 b) = none
      by_cases q : b = a
      · rw [if_pos q]
      · rw [if_neg q]
        exact gr.nw b o (by rw [e3 b q]; exact n1) n2 n3⟩
  exact ⟨F', hq⟩
/-- a changing list is read, the answer is no object -/
theorem ev_peek (i : Nat) (hi : ds[i]? = some (some (.ml xs))) (hs : scal d = true) (h : Ev K te (ds.set i (some (.im (.lst xs)))) d) : Ev K te ds d := fun F0 H0 F H σ S Q q => by
  obtain ⟨F', S', back⟩ := S.peek hi
  refine h F0 H0 F' H σ S' Q fun v F1 H1 g1 r1 => ?_
  obtain ⟨F2, g2⟩ := back F1 H1 g1
  exact q v F2 H1 g2 (rp_scal hs r1)
theorem et_peek (i : Nat) (hi : ds[i]? = some (some (.ml xs))) (h : EvT K t (ds.set i (some (.im (.lst xs)))) b) : EvT K t ds b := fun F0 H0 F H σ S Q q => by
  obtain ⟨F', S', back⟩ := S.peek hi
  refine h F0 H0 F' H σ S' Q fun F1 H1 g1 => ?_
  obtain ⟨F2, g2⟩ := back F1 H1 g1
  exact q F2 H1 g2

/-! sorted(d) -/
def leP (p q : Int × Int) : Bool := !SrtO.lexB q p
def sortP (ks : List (Int × Int)) : List (Int × Int) := ks.mergeSort leP
theorem leP_iff {p q : Int × Int} : leP p q = true ↔ p.1 < q.1 ∨ (p.1 = q.1 ∧ p.2 ≤ q.2) := by
  unfold leP
  rw [Bool.not_eq_true', ← Bool.not_eq_true, SrtO.lexB_iff]
  constructor
  · intro h
    by_cases h1 : p.1 < q.1
    · exact .inl h1
    · exact .inr ⟨by omega, by omega⟩
  · intro h
    omega
theorem leP_anti {p q : Int × Int} (h1 : leP p q = true) (h2 : leP q p = true) : p = q := by
  rw [leP_iff] at h1 h2
  exact Prod.ext (by omega) (by omega)
theorem sorted_unique : ∀ {as bs : List (Int × Int)}, as.Pairwise (fun p q => leP p q = true) → bs.Pairwise (fun p q => leP p q = true) → as.Perm bs → as = bs
  | [], bs, _, _, h => (List.nil_perm.mp h).symm
  | a :: as, [], _, _, h => by cases (List.perm_nil.mp h)
  | a :: as, b :: bs, h1, h2, h => by
    have hab : a = b := by
      rw [List.pairwise_cons] at h1 h2
      have m1 : a ∈ b :: bs := h.mem_iff.mp (List.mem_cons_self ..)
      have m2 : b ∈ a :: as := h.mem_iff.mpr (List.mem_cons_self ..)
      rcases List.mem_cons.mp m1 with e | m1
      · exact e
      · rcases List.mem_cons.mp m2 with e | m2
        · exact e.symm
        · exact leP_anti (h1.1 _ m2) (h2.1 _ m1)
    subst hab
    rw [sorted_unique (List.pairwise_cons.mp h1).2 (List.pairwise_cons.mp h2).2 (List.Perm.cons_inv h)]
theorem sortP_sorted (ks : List (Int × Int)) : (sortP ks).Pairwise (fun p q => leP p q = true) := List.pairwise_mergeSort
  (fun a b c h1 h2 => by rw [leP_iff] at *; omega) (fun a b => by
    cases h : leP a b
    · rw [Bool.false_or, leP_iff]
      have : ¬ leP a b = true := by rw [h]; decide
      rw [leP_iff] at this
      omega
    · rfl) ks
theorem sortP_perm (ks : List (Int × Int)) : (sortP ks).Perm ks := List.mergeSort_perm ks _
abbrev dPair (p : Int × Int) : D := .tup [.int p.1, .int p.2]
theorem ev_sortN {nvs : List (NestedKey × D)} (ks : List (Int × Int)) (hi : ds[i]? = some (some (.mn P w nvs))) (hk : nvs.map (·.1) = ks.map pairK) : Ev K (tCB (gSorted P w K) (tCons (tVar i) tNil)) ds (.lst ((sortP ks).map dPair)) := fun F0 H0 F H σ S Q q => by
  obtain ⟨a, ws, h1, h0, hF, hD, hkv, hok⟩ := S.dn hi
  refine ⟨_, h1, .inl ⟨a, ws, ks, rfl, hD, ?_, fun zs p hz hp hs hn => ?_⟩⟩
  · rw [← hk]
    have go : ∀ {nvs : List (NestedKey × D)} {ws : List (NestedKey × V)}, Kvs K F nvs ws → nvs.map (·.1) = ws.map (·.1) := by
      intro nvs ws h
      induction h with
      | nil => rfl
      | @cons p q ps qs r t ih => rw [List.map_cons, List.map_cons, ih, r.1]
    rw [go hkv]
    unfold kvW
    rw [List.map_map] <;> rfl
  · have e : zs.map (·.2) = sortP ks := sorted_unique (hs.imp fun {p q} h => by unfold leP; rw [h] <;> rfl) (sortP_sorted ks) (hp.trans (sortP_perm ks).symm)
    have hmem : ∀ y ∈ zs, KeyOk K F (pairK y.2) y.1 := fun y hy => by
      obtain ⟨e0, m0, e1, e2⟩ := hz y hy
      rw [← e1, ← e2]
      exact hok e0 m0
    have gr := Grow.new (o := .lst (zs.map fun y => V.ref y.1)) S.fh hn
    refine q _ _ _ gr ⟨p, _, rfl, .inl (.inl upd_same), ?_⟩
    rw [← e, List.map_map]
    have go : ∀ {l : List (Addr × (Int × Int))}, (∀ y ∈ l, KeyOk K F (pairK y.2) y.1) → Rps K (upd F p (.lst (zs.map fun y => V.ref y.1))) (l.map (dPair ∘ (·.2))) (l.map fun y => V.ref y.1) := by
      intro l
      induction l with
      | nil => exact fun _ => rfl
      | cons y r ih =>
        intro h
        exact .cons (Rp.mono gr.ff _ _ (h y (List.mem_cons_self ..)).1) (ih fun y' hy' => h y' (List.mem_cons_of_mem _ hy'))
    exact go hmem
end
end Sym

/-! Sym9: texts (join, index), chains, negation, truth, zip, enumerate, callees. -/
namespace Sym
open PySem PySem.Spec PyProof.Rows L2 Evl
theorem hu64 {A : Around} {k : Nat} (hr : Room k A) : A.units + 64 < cLine := hr.units
theorem hu65 {A : Around} {k : Nat} (hr : Room k A) : A.units + 65 < cLine := by have := hr.un; omega
/-! ### texts -/
def rLow : V → List V → Hp → VK → Prop := fun x xs H Q => ∃ a, x = .str a ∧ xs = [] ∧ a.length ≤ 5592405 ∧ Q (.str (Txt.lower a)) H
def rUpp : V → List V → Hp → VK → Prop := fun x xs H Q => ∃ a, x = .str a ∧ xs = [] ∧ a.length ≤ 5592405 ∧ Q (.str (Txt.upper a)) H
def rJoin (K : PySem.W.Frag) : V → List V → Hp → VK → Prop := fun x xs H Q => ∃ a p, ∃ ys : List Str, x = .str a ∧ xs = [.ref p] ∧ (SqL K H p (ys.map V.str) ∨ SqT K H p (ys.map V.str)) ∧ (ys.map (·.length)).sum + ys.length * a.length ≤ 16777216 ∧ Q (.str (Txt.join a ys)) H
def rSIdx : V → List V → Hp → VK → Prop := fun x xs H Q => ∃ a b i rest, x = .str a ∧ xs = [.str b] ∧ Builtin.Str.occurrences a b 0 a.length 1 = i :: rest ∧ Q (.int (i : Nat)) H
section
variable {X : Cx} {o e : Expr} {to te : TE} {apos pos : Pos}
theorem pe_low (ho : PE X o to) (hbase : attributeBase o "lower" X.env (eval o X.env) = eval o X.env := by rfl) (hline : (apos.endLine == pos.line) = true := by rfl) : PE X (.Call (.Attribute o "lower" apos) [] [] pos) (tM0 rLow to) := pe_lower ho hbase hline
theorem pe_upp (ho : PE X o to) (hbase : attributeBase o "upper" X.env (eval o X.env) = eval o X.env := by rfl) (hline : (apos.endLine == pos.line) = true := by rfl) : PE X (.Call (.Attribute o "upper" apos) [] [] pos) (tM0 rUpp to) := pe_upper ho hbase hline
theorem pe_jn (ho : PE X o to) (he : PE X e te) (hs : starEach [e] X.env = [(false, eval e X.env)] := by rfl) (hbase : attributeBase o "join" X.env (eval o X.env) = eval o X.env := by rfl) (hline : (apos.endLine == pos.line) = true := by rfl) :
    PE X (.Call (.Attribute o "join" apos) [e] [] pos) (tM1 (rJoin X.K) to te) := pe_join ho he hs hbase hline
theorem pe_sidx (ho : PE X o to) (he : PE X e te) (hs : starEach [e] X.env = [(false, eval e X.env)] := by rfl) (hbase : attributeBase o "index" X.env (eval o X.env) = eval o X.env := by rfl) (hline : (apos.endLine == pos.line) = true := by rfl) :
    PE X (.Call (.Attribute o "index" apos) [e] [] pos) (tM1 rSIdx to te) := pe_m1 PySem.F.slot_str_index PySem.F.type_str_index mt_sindex ho he hs hbase hline
end
theorem occ_full {s sub : Str} {hi : Nat} {i : Nat} : ∀ (l : List Nat) (fr : Nat), (forIn l ((#[i] : Array Nat), fr) (StrLaws.occBody s sub hi 1)).run.fst = #[i]
  | [], _ => rfl
  | a :: l, fr => by
    rw [List.forIn_cons]
    unfold StrLaws.occBody
    have h : ¬ (((((#[i] : Array Nat), fr).fst.size < 1 ∧ ((#[i] : Array Nat), fr).snd ≤ a) ∧ a + sub.length ≤ hi) ∧ Builtin.Str.subAt s sub a = true) := fun h => by
      have := h.1.1.1
      simp at this
    rw [if_neg h]
    exact occ_full l fr
theorem occ_first {s sub : Str} {hi : Nat} {i : Nat} : ∀ (p q : List Nat) (fr : Nat), (∀ j ∈ p ++ i :: q, fr ≤ j) → (∀ j ∈ p, ¬ (j + sub.length ≤ hi ∧ Builtin.Str.subAt s sub j = true)) → (i + sub.length ≤ hi ∧ Builtin.Str.subAt s sub i = true) →
    (forIn (p ++ i :: q) ((#[] : Array Nat), fr) (StrLaws.occBody s sub hi 1)).run.fst = #[i]
  | [], q, fr, hf, _, hi' => by
    rw [List.nil_append, List.forIn_cons]
    unfold StrLaws.occBody
    have c1 : (((#[] : Array Nat), fr).fst.size < 1 ∧ ((#[] : Array Nat), fr).snd ≤ i) ∧ i + sub.length ≤ hi := ⟨⟨by simp, hf i (by simp)⟩, hi'.1⟩
    rw [if_pos ⟨c1, hi'.2⟩]
    exact occ_full q _
  | a :: p, q, fr, hf, hn, hi' => by
    rw [List.cons_append, List.forIn_cons]
    unfold StrLaws.occBody
    have c2 : ¬ (((((#[] : Array Nat), fr).fst.size < 1 ∧ ((#[] : Array Nat), fr).snd ≤ a) ∧ a + sub.length ≤ hi) ∧ Builtin.Str.subAt s sub a = true) := fun h => hn a (by simp) ⟨h.1.2, h.2⟩
    rw [if_neg c2]
    exact occ_first p q fr (fun j hj => hf j (by simp only [List.cons_append, List.mem_cons]; exact .inr hj)) (fun j hj => hn j (List.mem_cons_of_mem _ hj)) hi'
theorem occ_sign {l : List Nat} {c i : Nat} (h : l[i]? = some c) (hn : ∀ j, j < i → l[j]? ≠ some c) : Builtin.Str.occurrences (S' l) ⟨#[c]⟩ 0 (S' l).length 1 = [i] := by
  rw [StrLaws.occ_eq]
  have hil : i < l.length := (List.getElem?_eq_some_iff.mp h).1
  have sp : List.range' 0 ((S' l).length + 1 - 0) = List.range' 0 i ++ i :: List.range' (i + 1) (l.length - i) := by
    rw [s_len, show l.length + 1 - 0 = i + (1 + (l.length - i)) by omega, ← List.range'_append_1, Nat.zero_add, Nat.add_comm 1, List.range'_succ]
  rw [sp, occ_first (i := i) _ _ 0 (fun _ _ => Nat.zero_le _) (fun j hj hc => ?_) ((StrLaws.subAt_one (S' l) c i).mpr h)]
  have hj' : j < i := by simpa [List.mem_range'] using hj
  exact hn j hj' ((StrLaws.subAt_one (S' l) c j).mp hc)
/-- where the sign stands first -/
def ixOf (l : List Nat) (c : Nat) : Nat := l.findIdx (· == c)
theorem ixOf_get {l : List Nat} {c : Nat} (h : c ∈ l) : l[ixOf l c]? = some c := by
  have hl : ixOf l c < l.length := List.findIdx_lt_length_of_exists ⟨c, h, by simp⟩
  rw [List.getElem?_eq_getElem hl]
  have := List.findIdx_getElem (p := (· == c)) (w := hl)
  exact congrArg some (eq_of_beq this)
theorem ixOf_lt {l : List Nat} {c : Nat} (h : c ∈ l) : ixOf l c < l.length := List.findIdx_lt_length_of_exists ⟨c, h, by simp⟩
theorem occ_ixOf {l : List Nat} {c : Nat} (h : c ∈ l) : Builtin.Str.occurrences (S' l) ⟨#[c]⟩ 0 (S' l).length 1 = [ixOf l c] := occ_sign (ixOf_get h) fun j hj hc => by
  have h1 := List.not_of_lt_findIdx (p := (· == c)) (xs := l) hj
  obtain ⟨hl, e⟩ := List.getElem?_eq_some_iff.mp hc
  simp [e] at h1

section
variable {P : Program} {w : World} {K : PySem.W.Frag} {E : XK} {ds ds' : Env'} {te ta tb tc td tx to : TE} {x y z d : D} {t u : TT} {tr : TA} {xs ys : List D} {b c : Bool} {tu tw tz : TS} {Po : Post} {g : TG} {ti : TI} {i j : Int} {a a' : Str}
theorem ev_low (h : Ev K te ds (.str a)) (hl : a.length ≤ 5592405) : Ev K (tM0 rLow te) ds (.str (Txt.lower a)) := ev_lower h hl
theorem ev_upp (h : Ev K te ds (.str a)) (hl : a.length ≤ 5592405) : Ev K (tM0 rUpp te) ds (.str (Txt.upper a)) := ev_upper h hl
theorem ev_lowS {l : List Nat} (h : Ev K te ds (.str (S' l))) (ha : l.all (· < 128) = true) (hl : l.length ≤ 5592405) : Ev K (tM0 rLow te) ds (.str (S' (l.map lo1))) := by
  have e : Txt.lower (S' l) = S' (l.map lo1) := SX.lower_S ha
  rw [← e]
  exact ev_low h (by rw [s_len]; exact hl)
theorem ev_uppS {l : List Nat} (h : Ev K te ds (.str (S' l))) (ha : l.all (· < 128) = true) (hl : l.length ≤ 5592405) : Ev K (tM0 rUpp te) ds (.str (S' (l.map up1))) := by
  have e : Txt.upper (S' l) = S' (l.map up1) := SX.upper_S ha
  rw [← e]
  exact ev_upp h (by rw [s_len]; exact hl)
theorem ev_join {l : List Nat} {zs : List (List Nat)} (ho : Ev K to ds (.str (S' l))) (h : Ev K te ds (.lst (zs.map fun z => .str (S' z)))) (hl : (zs.map (·.length)).sum + zs.length * l.length ≤ 16777216) : Ev K (tM1 (rJoin K) to te) ds (.str (S' (TL.joinL l zs))) := fun F0 H0 F H σ S Q q =>
  ho F0 H0 F H σ S _ fun v F1 H1 g1 r1 => by
    have e1 : v = .str (S' l) := r1
    subst e1
    refine ⟨⟨_, rfl⟩, h F0 H0 F1 H1 σ (S.grow g1) _ fun u F2 H2 g2 r2 => ?_⟩
    obtain ⟨p, vs, rfl, h1, h2⟩ := r2
    have hv : vs = (zs.map S').map V.str := rps_strs (K := K) (F := F2) (ns := zs.map S') (by rw [List.map_map]; exact h2)
    subst hv
    refine ⟨S' l, p, zs.map S', rfl, rfl, .inl (ex_l g2.fh h1), ?_, q _ F2 H2 (g1.trans g2) ?_⟩
    · rw [SX.lens, List.length_map, s_len]
      exact hl
    · have e := SX.join_S l zs
      exact congrArg V.str e
theorem joinL_nil : ∀ zs : List (List Nat), TL.joinL [] zs = zs.flatten
  | [] => rfl
  | [p] => by simp [TL.joinL]
  | p :: q :: r => by
    show p ++ ([] ++ TL.joinL [] (q :: r)) = _
    rw [List.nil_append, joinL_nil (q :: r)] <;> rfl
theorem ev_join0 {zs : List (List Nat)} (h : Ev K te ds (.lst (zs.map fun z => .str (S' z)))) (hl : (zs.map (·.length)).sum ≤ 16777216) : Ev K (tM1 (rJoin K) (tC (.str (S' []))) te) ds (.str (S' zs.flatten)) := by
  rw [← joinL_nil]
  exact ev_join ev_str h (by simpa using hl)
theorem ev_sidx {l : List Nat} {s : Nat} (ho : Ev K to ds (.str (S' l))) (h : Ev K te ds (.str ⟨#[s]⟩)) (hm : s ∈ l) : Ev K (tM1 rSIdx to te) ds (.int (ixOf l s : Nat)) := fun F0 H0 F H σ S Q q =>
  ho F0 H0 F H σ S _ fun v F1 H1 g1 r1 => by
    have e1 : v = .str (S' l) := r1
    subst e1
    refine ⟨⟨_, rfl⟩, h F0 H0 F1 H1 σ (S.grow g1) _ fun u F2 H2 g2 r2 => ?_⟩
    have e2 : u = .str ⟨#[s]⟩ := r2
    subst e2
    exact ⟨S' l, ⟨#[s]⟩, _, [], rfl, rfl, occ_ixOf hm, q _ F2 H2 (g1.trans g2) rfl⟩
theorem ev_neg (h : Ev K te ds (.int i)) : Ev K (tUn (rU fun i => .int (-i)) te) ds (.int (-i)) := ev_op1 h fun F H u e r Q q => ⟨i, r, q _ F H (.refl e) rfl⟩
/-- a < b < c -/
theorem ev_chain {r r' : R2} (ha : Ev K ta ds x) (hb : Ev K tb ds y) (h1 : Op2 K r x y (.bl b)) (hc : b = true → Ev K tc ds z) (h2 : b = true → Op2 K r' y z (.bl c)) : Ev K (tChain r r' ta tb tc) ds (.bl (b && c)) := fun F0 H0 F H σ S Q q =>
  ha F0 H0 F H σ S _ fun u F1 H1 g1 r1 => hb F0 H0 F1 H1 σ (S.grow g1) _ fun v F2 H2 g2 r2 => h1 F2 H2 u v g2.fh (r1.mono g2.ff) r2 _ fun w' F3 H3 g3 r3 => by
    refine ⟨b, r3, ?_⟩
    have gg := (g1.trans g2).trans g3
    cases b with
    | true =>
      rw [if_pos rfl]
      exact hc rfl F0 H0 F3 H3 σ (S.grow gg) _ fun v4 F4 H4 g4 r4 => h2 rfl F4 H4 v v4 g4.fh ((r2.mono g3.ff).mono g4.ff) r4 Q fun w5 F5 H5 g5 r5 => q w5 F5 H5 ((gg.trans g4).trans g5) r5
    | false =>
      rw [if_neg (by decide)]
      exact q _ F3 H3 gg rfl
/-! truth -/
def tTruG (K : PySem.W.Frag) (ta : TE) : TT := fun σ H Q => ta σ H fun x H' => ∃ k, TruV K x H' k ∧ Q k H'
theorem pt_tru {X : Cx} {a : Expr} {ta : TE} (ha : PE X a ta) (he : ∀ whole, isTrue a X.env whole = (do let v ← whole; standAt a.pos; holding [v] (truthy v)) := by intro _; rfl) : PT X a (tTruG X.K ta) := pt_truth ha he
def truD : D → Option Bool
  | .non => some false
  | .bl b => some b
  | .int i => some (i != 0)
  | .str y => if y.length ≤ 16777216 then some ((y.length : Int) != 0) else none
  | .lst xs => some (!xs.isEmpty)
  | .tup xs => some (!xs.isEmpty)
  | _ => none
theorem isEmpty_len {α β : Type} {xs : List α} {ys : List β} (h : xs.length = ys.length) : xs.isEmpty = ys.isEmpty := by
  cases xs <;> cases ys <;> first | rfl | (simp at h)
theorem et_tru (h : Ev K te ds d) (hb : truD d = some b) : EvT K (tTruG K te) ds b := fun F0 H0 F H σ S Q q => h F0 H0 F H σ S _ fun v F1 H1 g1 r1 => by
  refine ⟨b, ?_, q F1 H1 g1⟩
  cases d with
  | non => have e : v = .non := r1; subst e; exact (Option.some.inj hb).symm
  | bl k => have e : v = .bl k := r1; subst e; exact (Option.some.inj hb).symm
  | int k => have e : v = .int k := r1; subst e; exact (Option.some.inj hb).symm
  | str k =>
    have e : v = .str k := r1
    subst e
    have hb' : (if k.length ≤ 16777216 then some ((k.length : Int) != 0) else none) = some b := hb
    by_cases hl : k.length ≤ 16777216
    · rw [if_pos hl] at hb'
      exact ⟨sz_of hl, (Option.some.inj hb').symm⟩
    · rw [if_neg hl] at hb'
      cases hb'
  | lst xs =>
    obtain ⟨p, vs, rfl, h1, h2⟩ := r1
    exact .inl ⟨vs, ex_l g1.fh h1, by rw [← isEmpty_len h2.length]; exact (Option.some.inj hb).symm⟩
  | tup xs =>
    obtain ⟨p, vs, rfl, h1, h2⟩ := r1
    exact .inr (.inl ⟨vs, ex_t g1.fh h1, by rw [← isEmpty_len h2.length]; exact (Option.some.inj hb).symm⟩)
  | ins _ _ _ => cases hb
  | op _ => cases hb
  | exn _ _ _ _ => cases hb

/-! zip, enumerate -/
def srcD : D → Option (List D)
  | .lst xs => some xs
  | .tup xs => some xs
  | .str z => some (z.cps.toList.map sgn)
  | _ => none
theorem src_of {F H : Hp} {v : V} (e : Ex F H) : ∀ {d : D}, Rp K F d v → srcD d = some xs → ∃ k : Src, v = k.v ∧ k.items.length = xs.length ∧ (∀ F' H', Ex F F' → Ex F' H' → k.Ok K H') ∧ (∀ (i : Nat) x d, xs[i]? = some d → k.items[i]? = some x → Rp K F d x) ∧ ((∃ a vs, k = .t a vs) → ∃ ys, d = .tup ys)
  | .lst _, r, h => by
    cases h
    obtain ⟨p, vs, rfl, h1, h2⟩ := r
    refine ⟨.l p vs, rfl, h2.length.symm, fun F' H' e1 e2 => ex_l e2 (ex_l e1 h1), fun i x d hd hx => ?_, fun ⟨_, _, z⟩ => by cases z⟩
    obtain ⟨v', e3, r3⟩ := h2.get hd
    have hx' : vs[i]? = some x := hx
    rw [hx'] at e3
    cases e3
    exact r3
  | .tup _, r, h => by
    cases h
    obtain ⟨p, vs, rfl, h1, h2⟩ := r
    refine ⟨.t p vs, rfl, h2.length.symm, fun F' H' e1 e2 => ex_t e2 (ex_t e1 h1), fun i x d hd hx => ?_, fun _ => ⟨_, rfl⟩⟩
    obtain ⟨v', e3, r3⟩ := h2.get hd
    have hx' : vs[i]? = some x := hx
    rw [hx'] at e3
    cases e3
    exact r3
  | .str z, r, h => by
    cases h
    have e1 : v = .str z := r
    subst e1
    refine ⟨.s z, rfl, by show (z.cps.toList.map _).length = _; rw [List.length_map, List.length_map], fun _ _ _ _ => trivial, fun i x d hd hx => ?_, fun ⟨_, _, z⟩ => by cases z⟩
    have hx' : (z.cps.toList.map fun c => V.str ⟨#[c]⟩)[i]? = some x := hx
    rw [List.getElem?_map] at hd hx'
    cases q : z.cps.toList[i]? with
    | none => rw [q] at hd; cases hd
    | some c0 =>
      rw [q] at hd hx'
      cases hd
      cases hx'
      rfl
  | .non, _, h => by cases h
  | .bl _, _, h => by cases h
  | .int _, _, h => by cases h
  | .ins _ _ _, _, h => by cases h
  | .op _, _, h => by cases h
  | .exn _ _ _ _, _, h => by cases h
def zipD (xs ys : List D) : List D := (xs.zip ys).map fun p => .tup [p.1, p.2]
theorem ei_zip (h : EvA K tr ds [x, y]) (h1 : srcD x = some xs) (h2 : srcD y = some ys) : EvI K (iZipG K tr) ds (zipD xs ys) := fun F0 H0 F H σ S R q => h F0 H0 F H σ S _ fun vs F1 H1 g1 r => by
  obtain ⟨u, r', rfl, r1, u2, r'', rfl, r2, r3⟩ := r
  have e : r'' = [] := r3
  subst e
  obtain ⟨k1, rfl, l1, ok1, it1, _⟩ := src_of g1.fh r1 h1
  obtain ⟨k2, rfl, l2, ok2, it2, _⟩ := src_of g1.fh r2 h2
  have hn : min k1.items.length k2.items.length = (zipD xs ys).length := by unfold zipD; rw [List.length_map, List.length_zip, l1, l2]
  refine ⟨k1, k2, rfl, ok1 F1 H1 (Ex.refl _) g1.fh, ok2 F1 H1 (Ex.refl _) g1.fh, q _ F1 H1 (fun H => k1.Ok K H ∧ k2.Ok K H) (fun i H v H' => (Jz K k1 k2).yld i H v H') g1 ⟨fun i H hi q => ⟨by omega, q.1, q.2⟩, fun H q => ⟨hn.symm, q.1, q.2⟩, fun i H x H' _ _ y => y⟩
    (fun F' H' e1 e2 => ⟨ok1 F' H' e1 e2, ok2 F' H' e1 e2⟩) fun i x F' H' H'' d e1 e2 hd y => ?_⟩
  obtain ⟨T, x0, y0, rfl, hT, rfl, hx, hy⟩ := y
  unfold zipD at hd
  rw [List.getElem?_map] at hd
  cases hz : (xs.zip ys)[i]? with
  | none => rw [hz] at hd; cases hd
  | some p =>
    rw [hz] at hd
    cases hd
    rw [List.getElem?_zip_eq_some] at hz
    have gr := Grow.new (o := .tup [x0, y0]) e2 hT
    exact ⟨_, gr, T, [x0, y0], rfl, .inl (.inl upd_same), .cons (((it1 i x0 _ hz.1 hx).mono e1).mono gr.ff) (.cons (((it2 i y0 _ hz.2 hy).mono e1).mono gr.ff) .nil)⟩
def enumD (xs : List D) : List D := (List.range xs.length).zip xs |>.map fun p => .tup [.int (p.1 : Nat), p.2]
theorem ei_enum (h : EvA K tr ds [x]) (h1 : srcD x = some xs) (nt : ∀ ys, x ≠ .tup ys := by exact fun _ z => nomatch z) : EvI K (iEnumG K tr) ds (enumD xs) := fun F0 H0 F H σ S R q => h F0 H0 F H σ S _ fun vs F1 H1 g1 r => by
  obtain ⟨u, rfl, r1⟩ := rps1 r
  obtain ⟨k1, rfl, l1, ok1, it1, nt1⟩ := src_of g1.fh r1 h1
  have hn : k1.items.length = (enumD xs).length := by unfold enumD; rw [List.length_map, List.length_zip, l1, List.length_range, Nat.min_self]
  refine ⟨k1, rfl, ok1 F1 H1 (Ex.refl _) g1.fh, fun a vs z => ?_, q _ F1 H1 (fun H => k1.Ok K H) (fun i H v H' => (Je K k1).yld i H v H') g1 ⟨fun i H hi q => ⟨by omega, q⟩, fun H q => ⟨hn.symm, q⟩, fun i H x H' _ _ y => y⟩
    (fun F' H' e1 e2 => ok1 F' H' e1 e2) fun i x F' H' H'' d e1 e2 hd y => ?_⟩
  · obtain ⟨ys, e⟩ := nt1 ⟨a, vs, z⟩
    exact nt ys e
  · obtain ⟨T, x0, rfl, hT, rfl, hx⟩ := y
    unfold enumD at hd
    rw [List.getElem?_map] at hd
    cases hz : ((List.range xs.length).zip xs)[i]? with
    | none => rw [hz] at hd; cases hd
    | some p =>
      rw [hz] at hd
      cases hd
      rw [List.getElem?_zip_eq_some] at hz
      have hi : i = p.1 := by
        obtain ⟨_, e⟩ := List.getElem?_eq_some_iff.mp hz.1
        rw [List.getElem_range] at e
        exact e
      have gr := Grow.new (o := .tup [.int (i : Nat), x0]) e2 hT
      refine ⟨_, gr, T, [.int (i : Nat), x0], rfl, .inl (.inl upd_same), .cons (by rw [hi]; rfl) (.cons (((it1 i x0 _ hz.2 hx).mono e1).mono gr.ff) .nil)⟩
theorem ei_range3 {lo n st : Int} (h : EvA K tr ds [.int lo, .int n]) (hb : -(2 ^ 62) ≤ lo ∧ lo < 2 ^ 62 ∧ -(2 ^ 62) ≤ n ∧ n < 2 ^ 62) : EvI K (iRng2 tr) ds ((List.range (n - lo).toNat).map fun i => .int (lo + (i : Nat))) := ei_range2 h hb
end

/-! ### callees -/
structure Cal (P : Program) (w : World) (K : PySem.W.Frag) (mg : Str → Option Value) (base : Heap) (CX : CXT) (k : Nat) (x : Str) (ps : List Str) (dvs : List V) (sp : Sp) : Prop where
  ex : ∃ f fd ds, FnOkG P w K mg base CX k f fd ps sp ∧ mg x = some (.ref f) ∧ PySem.W.keepIn K (.ref f) = true ∧ Binds K fd ps ds ∧ Vals dvs ds
section
variable {X : Cx} {CX : CXT} {k j : Nat} {ps : List Str} {sp : Sp} {dvs : List V} {E : XK} {x : Str} {p pos : Pos} {e : Expr} {es : List Expr} {t : TA}
theorem pe_cal (c : Cal X.prog X.w X.K X.mg X.base CX k x ps dvs sp) (hG : NoRep X.A) (room : Room j X.A) (hk : k ≤ j) (hg : Gl X x) (pas : Passes CX X E) (ha : PA X (e :: es) t) (hdb : (x == ("__debug__" : Str)) = false := by decide)
    (h1 : starEach (e :: es) X.env = (false, eval e X.env) :: starEach es X.env := by rfl) (h2 : (backTo pos (starEach es X.env)).any (·.1) = false := by rfl) : PE X (.Call (.Name x p) (e :: es) [] pos) (tCall sp dvs E t) := by
  obtain ⟨f, fd, ds, h, hm, hk', bn, hd⟩ := c.ex
  exact pe_callG h hG (room.mono hk) hg hm hk' bn hd pas ha hdb h1 h2
theorem pe_cal0 (c : Cal X.prog X.w X.K X.mg X.base CX k x ps dvs sp) (hG : NoRep X.A) (room : Room j X.A) (hk : k ≤ j) (hg : Gl X x) (pas : Passes CX X E) (hdb : (x == ("__debug__" : Str)) = false := by decide) :
    PE X (.Call (.Name x p) [] [] pos) (tCall sp dvs E tNil) := by
  obtain ⟨f, fd, ds, h, hm, hk', bn, hd⟩ := c.ex
  exact pe_callG0 h hG (room.mono hk) hg hm hk' bn hd pas hdb
end
end Sym

/-! Sym10: builtins by name, op= by values. -/
namespace Sym
open PySem PySem.Spec PyProof.Rows L2 Evl
theorem bt_len : bootBuiltins "len" = some (.builtin "len") := by decide +kernel
theorem bt_int : bootBuiltins "int" = some (.type "int") := by decide +kernel
theorem bt_tuple : bootBuiltins "tuple" = some (.type "tuple") := by decide +kernel
theorem bt_list : bootBuiltins "list" = some (.type "list") := by decide +kernel
theorem bt_repr : bootBuiltins "repr" = some (.builtin "repr") := by decide +kernel
theorem bt_sorted : bootBuiltins "sorted" = some (.builtin "sorted") := by decide +kernel
theorem bt_isinstance : bootBuiltins "isinstance" = some (.builtin "isinstance") := by decide +kernel
theorem bt_ValueError : bootBuiltins "ValueError" = some (.type "ValueError") := by decide +kernel
theorem bt_max : bootBuiltins "max" = some (.builtin "max") := by decide +kernel
theorem bt_min : bootBuiltins "min" = some (.builtin "min") := by decide +kernel
theorem bt_sum : bootBuiltins "sum" = some (.builtin "sum") := by decide +kernel
theorem bt_abs : bootBuiltins "abs" = some (.builtin "abs") := by decide +kernel
def gIadd : TIp := ipI fun i j => i + j
theorem ip_gAdd {X : Cx} : PIp X .Add gIadd := ip_add
theorem pe_gcv {X : Cx} {x : Str} {v : V} {pos : Pos} (hg : Gl X x) (h : ∃ u, X.mg x = some u ∧ RelV v u) (hd : (x == ("__debug__" : Str)) = false := by decide) : PE X (.Name x pos) (tC v) := by
  obtain ⟨u, h1, h2⟩ := h
  exact pe_glob hg h1 h2 hd
end Sym

/-! Sym11: own exceptions that hold a field: made, raised, caught, asked. -/
namespace PySem.W
open PySem PySem.Spec PySem.Calls PyProof.Rows
section
variable {prog : Program} {w : World} {A : Around} {E : Value → Shared → Prop} {s : Shared} {K : Frag} {x D : Addr} {ox : Obj} {od : Option Obj}
/-- an own class's lookup of a data descriptor, the own dict left aside -/
theorem symFind_data {C : Addr} {o1 : Option Obj} {n : Str} {a g : Value} (h0 : (clsIn K C).isSome = true) (h1 : findIn K (.ref C) n = some (some a)) (h2 : specialIn K a "__get__" = some (some g)) (h3 : takesIn K a = some true) : findObj K C o1 n = some (.bind g a) := by
  obtain ⟨cd, h0⟩ := Option.isSome_iff_exists.mp h0
  unfold findObj; rw [h0, Option.bind_some, h1, Option.bind_some]; simp [h2, h3]
/-- e.__class__ of an exception with a dict of its own -/
theorem symExc_class {Q : Option Value → Shared → Prop} (e1 : findIn K (.ref D) "__getattribute__" = some (some (.builtin "BaseException.__getattribute__"))) (e2 : findIn K (.ref D) "__getattr__" = some none)
    (e3 : subIn K (.ref D) (.type "BaseException") = some true) (e4 : hasDictIn K D = true) (e5 : findIn K (.ref D) "__class__" = some (some (.builtin "object.__class__")))
    (e6 : specialIn K (.builtin "object.__class__") "__get__" = some (some (.builtin "getset_descriptor.__get__"))) (e7 : takesIn K (.builtin "object.__class__") = some true) (e8 : mroIn K D (.type "object") = some true)
    (KI : K.In s.heap) (J0 : InstAt s.heap x ox D od) (q : Q (some (.ref D)) { s with toks := s.toks + 1 }) : wpAny (model prog w) A (getAttr? (.ref x) "__class__") Q E s := by
  have fo : findObj K D od "__class__" = some (.bind (.builtin "getset_descriptor.__get__") (.builtin "object.__class__")) := symFind_data (by obtain ⟨cd, hc, _⟩ := any_some e4; rw [hc] <;> rfl) e5 e6 e7
  obtain ⟨hp, g, d, t, os⟩ := s
  have Ty := J0.type (M := model prog w)
  have Ga := looks_findIn (M := model prog w) KI e1
  have Gt := looks_findIn (M := model prog w) KI e2
  have Fo := looks_find (M := model prog w) KI J0 fo
  have Sb : Looks (model prog w) hp (isInstance (.ref x) (.type "BaseException")) true := Ty.andThen (looks_subIn KI e3)
  have n0 : (false && onTheHeap (Value.builtin "BaseException.__getattribute__")) = false := by rfl
  have n2 : (Value.builtin "BaseException.__getattribute__" == Value.builtin "object.__getattribute__") = false := by decide +kernel
  have n1 : (onTheHeap (Value.ref D) && Value.builtin "BaseException.__getattribute__" == Value.builtin "object.__getattribute__") = false := by rw [n2] <;> rfl
  unfold getAttr? getAttrBy? getAttrBy
  refine wpAny_bind (wpAny_mkText (wpAny_bind (wpAny_attempt (wpAny_holding (wpAny_bind (Ty.at (wpAny_bind (Ga.at ?_))))))))
  show wpAny _ _ (if (onTheHeap (Value.ref D) && (Value.builtin "BaseException.__getattribute__" == Value.builtin "object.__getattribute__")) = true then _ else _) _ _ _
  rw [n1, if_neg Bool.false_ne_true]; unfold getAttrByItsOwn hookBefore
  refine wpAny_bind ?_; rw [if_pos (show onTheHeap (Value.ref D) = true by rfl)]
  refine Gt.at ?_; refine wpAny_bind (wpAny_attempt (wpAny_holding ?_)); unfold callGetattribute
  rw [n0, if_neg Bool.false_ne_true]; unfold boundAndCalled
  rw [PySem.F.excAttr_ValueError.ga.bind (.ref x)]; refine wpAny_bind (wpAny_pure ?_)
  show wpAny _ _ (call (.builtin "BaseException.__getattribute__") [(.ref x), (.str "__class__" t)]) _ _ _
  refine wpAny_call (codeAny_call_builtin (PySem.F.excAttr_ValueError.ga.plain) PySem.F.entry_bexc_ga ?_)
  refine @check_slot (model prog w) _ _ ⟨hp, g, d, t + 1, os⟩ "BaseException.__getattribute__" "BaseException" "__getattribute__" (.ref x) [.str "__class__" t] [] _ (by decide +kernel) (by decide +kernel) Sb (PySem.F.args_bexc_ga (.ref x) (.str "__class__" t)) ?_
  unfold Builtin.«object.__getattribute__»
  refine wpAny_bind (wpAny_of_eq (a := ((Value.ref x : Value), [Value.str "__class__" t])) (by first | rfl | (simp only [slotArgs] <;> rfl)) ?_)
  refine wpAny_bind (wpAny_pure (wpAny_bind (Ty.at (wpAny_bind (Fo.at ?_)))))
  show wpAny _ _ (holding [Value.builtin "object.__class__"] (call (.builtin "getset_descriptor.__get__") [(.builtin "object.__class__"), .ref x, .ref D]) >>= ret) _ _ _
  refine wpAny_bind (wpAny_holding (wpAny_call (class_get (s := ⟨hp, g, d, t + 1, os⟩) (ox := ox) (od := od) KI J0 e8 ?_)))
  refine wpAny_pure ?_; show wpAny _ _ (handedOut (.ref D)) _ _ _
  rw [handedOut_of (v := .ref D) rfl]
  first | exact wpAny_pure (wpAny_pure q) | exact wpAny_pure q | exact wpAny_pure (wpAny_bind (wpAny_pure (wpAny_pure q)))
theorem symKit (e1 : findIn K (.ref D) "__getattribute__" = some (some (.builtin "BaseException.__getattribute__"))) (e2 : findIn K (.ref D) "__getattr__" = some none)
    (e3 : subIn K (.ref D) (.type "BaseException") = some true) (e4 : hasDictIn K D = true) (e5 : findIn K (.ref D) "__class__" = some (some (.builtin "object.__class__")))
    (e6 : specialIn K (.builtin "object.__class__") "__get__" = some (some (.builtin "getset_descriptor.__get__"))) (e7 : takesIn K (.builtin "object.__class__") = some true) (e8 : mroIn K D (.type "object") = some true) :
    KitX K (.ref x) (.ref D) (fun h => InstAt h x ox D od) where
  ty := fun _ _ _ J => J.type
  it := fun _ _ KI _ => by
    obtain ⟨c0, h0, _⟩ := any_some e4
    unfold clsIn at h0
    split at h0
    · rename_i c' d' cd' sl' ho
      intro A' Q' E' s' k q; unfold isType loadHead
      exact wpAny_bind (wpAny_loadPart (k _ _ (KI _ _ ho)) (wpAny_pure q))
    · cases h0
  ne := fun h tp dd its n sl KI htp => by
    obtain ⟨c0, h0, _⟩ := any_some e4
    refine Bool.eq_false_iff.mpr fun q => ?_
    have e : D = tp := Value.ref.inj (beq_iff_eq.mp q)
    subst e
    unfold clsIn at h0
    split at h0
    · rename_i c' d' cd' sl' ho
      cases (KI _ _ ho).symm.trans htp
    · cases h0
  ca := fun KI J k => symExc_class e1 e2 e3 e4 e5 e6 e7 e8 KI J k
end
end PySem.W
namespace Sym
open PySem PySem.Spec PyProof.Rows L2 Evl
/-- isinstance(e, c), e the caught exception a with a dict of its own -/
def rIsX (K : PySem.W.Frag) (a : Addr) (cls : Value) (d : Option Addr) : List V → Hp → VK → Prop := fun xs H Q => ∃ (D dd : Addr) (gs : List (Str × V)) (c : V) (cv : Value) (b : Bool), cls = .ref D ∧ d = some dd ∧ H dd = some (.xd gs) ∧ ExcC K D ∧ xs = [.ref a, c] ∧
  (∀ u, RelV c u → u = cv) ∧ PySem.W.kitOne K (.ref D) cv = some b ∧ Q (.bl b) H
theorem call_isX {X : Cx} {a : Addr} {cls : Value} {d : Option Addr} {oe : Obj} {pn : List (Addr × Obj)} (hz : Zc cls d oe) (hf : ∃ vs, oe.data = .fields vs) : CallR (X.suite a ((a, oe) :: pn)) (.builtin "isinstance") (rIsX X.K a cls d) := by
  intro pins s σ H xs us Q I r h
  obtain ⟨D, dd, gs, c, cv, b, rfl, rfl, hg, C, rfl, hcv, e, q⟩ := h
  obtain ⟨u1, u2, rfl, rx, rt⟩ := vals2 r
  cases rx
  have ec := hcv _ rt
  subst ec
  obtain ⟨hget, _⟩ := I.pin (a, oe) (List.mem_append.mpr (.inl List.mem_cons_self))
  obtain ⟨vs, hv⟩ := hf
  have hx : ObjOk X.prog X.w H s.heap dd (.xd gs) := I.hok dd _ hg
  obtain ⟨mA, hns, hr⟩ := hx
  obtain ⟨od, ho, hl⟩ := lookIn_ns hns
  have J : PySem.W.InstAt s.heap a oe D (some od) := ⟨hget, hz.1, by unfold PySem.W.notCls; rw [hv] <;> rfl, by rw [hz.2]; exact ho⟩
  exact PySem.W.kia_one (PySem.W.symKit C.hg C.hk C.hs C.hd C.ha C.hn C.ht C.hm) I.kIn J e (fun z => nomatch z) fun tk => ⟨.bl b, H, I.kept (t' := tk) fun _ _ z => z, rfl, q⟩
/-- e.f, e the caught exception -/
def tXg (K : PySem.W.Frag) (a : Addr) (cls : Value) (d : Option Addr) (f : Str) (te : TE) : TE := fun σ H Q => te σ H fun x H1 => x = .ref a ∧ ∃ C, cls = .ref C ∧ XfC K C ∧ PySem.W.findIn K (.ref C) f = some none ∧ ∃ (dd : Addr) (fs : List (Str × V)) (v : V), d = some dd ∧ H1 dd = some (.xd fs) ∧ fs.lookup f = some v ∧ Q v H1
theorem pe_xg {X : Cx} {a : Addr} {oe : Obj} {cls : Value} {d : Option Addr} {pn : List (Addr × Obj)} {e : Expr} {te : TE} {pos : Pos} {n : Str} (hz : Zc cls d oe) (hf : ∃ vs, oe.data = .fields vs) (he : PE (X.suite a ((a, oe) :: pn)) e te) (hb : attributeBase e n X.env (eval e X.env) = eval e X.env := by rfl) :
    PE (X.suite a ((a, oe) :: pn)) (.Attribute e n pos) (tXg X.K a cls d n te) := by
  refine ⟨fun pins s σ H Q I h => ?_⟩
  refine attr_of hb (thn (he.run pins s σ H _ I h) fun u s1 hh => ?_)
  obtain ⟨x, H1, I1, rx, ex, C, ec, T, hno, dd, fs, v, ed, ea, l, q⟩ := hh
  subst ex ec ed
  obtain rfl : u = Value.ref a := rx
  have J1 := I1.pin (a, oe) (List.mem_append_left _ List.mem_cons_self)
  obtain ⟨ha, _⟩ := J1
  obtain ⟨vs, hd⟩ := hf
  have hx : ObjOk X.prog X.w H1 s1.heap dd (.xd fs) := I1.hok dd _ ea
  obtain ⟨mA, hns, hr⟩ := hx
  have ⟨od, ho, hl⟩ := lookIn_ns hns
  have ⟨u, hu, ru⟩ := RelO.some_of (v := v) (o := mA n) (by rw [← l]; exact hr n)
  have J : PySem.W.InstAt s1.heap a oe C (some od) := ⟨ha, hz.1, by unfold PySem.W.notCls; rw [hd] <;> rfl, by rw [hz.2]; exact ho⟩
  exact HandSPX.exc_get I1.kIn J (T.ga) (T.gg) (T.exC) (PySem.W.findObj_own T.hdC hno rfl (by rw [hl, hu])) (handed_of ru) ⟨v, H1, I1.tok _, ru, q⟩

/-! ### making and raising -/
/-- __init__: self.f = f -/
def spInit (C : Addr) (f : Str) : Sp := fun vs H Q _ => ∃ a v, vs = [.ref a, v] ∧ H a = some (exo a C none) ∧ ∀ dx, H dx = none → dx ≠ a → Q .non (upd (upd H dx (exd dx [(f, v)])) a (exo a C (some dx)))
structure ExT (P : Program) (w : World) (K : PySem.W.Frag) (mg : Str → Option Value) (base : Heap) (x f : Str) (C : Addr) : Prop where
  gC : mg x = some (.ref C)
  ox : OexC K C
  xf : XfC K C
  xc : ExcC K C
  no : PySem.W.findIn K (.ref C) f = some none
  ini : ∃ fI fd, PySem.W.findIn K (.ref C) "__init__" = some (some (.ref fI)) ∧ PySem.W.typeIn K (.ref fI) = some (.type "function") ∧ FnOk P w K mg base CX0 1 fI fd ["self", f] (spInit C f) ∧ Binds K fd ["self", f] []
def sRai (C : Addr) (f : Str) (E : XK) (ta : TA) : TS := fun _ σ H => tMkO C (spInit C f) [] ta σ H fun cls d H' => E cls d H'
theorem ps_rai {P : Program} {w : World} {K : PySem.W.Frag} {mg : Str → Option Value} {base : Heap} {N : List Str} {qual : Str} {scope : Scope} {fa : Addr} {cd : Value} {A : Around} {outer : List Env} {s : Shared} {H : Hp} {E : XK} {x f : Str} {C : Addr} {k : Nat} {e : Expr} {ta : TA} {p pos pos' : Pos}
    (T : ExT P w K mg base x f C) (hr : Room k (A.deeper (PyProof.Rows.envOfC qual scope s.heap.objs.size fa cd))) (hk : 2 ≤ k) (hg : Gl (cxOf (L2.CX P w) P w K mg base N qual scope fa cd A outer s H E) x) (ha : PA (cxOf (L2.CX P w) P w K mg base N qual scope fa cd A outer s H E) [e] ta)
    (hdb : (x == ("__debug__" : Str)) = false := by decide) (he : starEach [e] (PyProof.Rows.envOfC qual scope s.heap.objs.size fa cd) = (false, eval e (PyProof.Rows.envOfC qual scope s.heap.objs.size fa cd)) :: starEach [] (PyProof.Rows.envOfC qual scope s.heap.objs.size fa cd) := by rfl) :
    PS (cxOf (L2.CX P w) P w K mg base N qual scope fa cd A outer s H E) (.Raise (some (.Call (.Name x p) [e] [] pos)) none pos') (sRai C f E ta) := by
  obtain ⟨fI, fd, h1, h2, h3, h4⟩ := T.ini
  exact ps_raise (X := cxOf (L2.CX P w) P w K mg base N qual scope fa cd A outer s H E) (W := fun cls d _ H => E cls d H) rfl (takes_of rfl rfl rfl rfl) (pmk_oex (X := cxOf (L2.CX P w) P w K mg base N qual scope fa cd A outer s H E) (CX := CX0) T.ox h1 h2 h3 (hr.mono hk) h4 (.nil) (fun _ _ _ _ _ _ _ h => h.elim) hg T.gC ha hdb he rfl)
section
variable {P : Program} {w : World} {K : PySem.W.Frag} {E : XK} {ds ds' : Env'} {te ta tb tc td tx to : TE} {x y z d : D} {t u : TT} {tr : TA} {xs ys : List D} {b c : Bool} {tu tw tz : TS} {Po : Post} {g : TG} {ti : TI} {i j : Nat} {C a dx : Addr} {f : Str}
theorem run_rai (ha : EvA K tr ds [d]) (k : Po.xe C [(f, d)]) : Run K E (sRai C f E tr) ds Po := fun F0 H0 F H σ Dn S W => by
  refine ha F0 H0 F H σ S _ fun vs F1 H1 g1 r1 => ?_
  obtain ⟨v, rfl, r2⟩ := rps1 r1
  refine ⟨by show 1 ≤ 1000; omega, fun ad hn => ⟨ad, v, rfl, upd_same, fun dd hd hne => ⟨rfl, dd, [(f, v)], upd_same, ?_, ?_, ?_⟩⟩⟩
  · rw [upd_ne hne, upd_same]
  · rw [upd_ne hne] at hd
    exact hd
  · have hd1 : H1 dd = none := by rw [upd_ne hne] at hd; exact hd
    have key : ∀ b o, H1 b = some o → (upd (L2.del (upd (upd (upd H1 ad (exo ad C none)) dd (exd dd [(f, v)])) ad (exo ad C (some dd))) ad) dd (.xd [(f, v)])) b = some o := fun b o hb => by
      have n1 : b ≠ dd := fun z => by rw [z, hd1] at hb; cases hb
      have n2 : b ≠ ad := fun z => by rw [z, hn] at hb; cases hb
      rw [upd_ne n1, del_ne n2, upd_ne n2, upd_ne n1, upd_ne n2]
      exact hb
    exact W.xe C [(f, d)] dd [(f, v)] F1 _ k ((S.gr.trans g1).trans ⟨Ex.refl _, key, g1.fh.trans key, fun _ _ h _ _ => h⟩) upd_same (.cons ⟨rfl, r2⟩ .nil)
/-- a slot and what is known of it are dropped -/
theorem Sd.dropS {F0 H0 F H : Hp} {σ : L2.St} (S : Sd K F0 H0 F H σ ds) : Sd K F0 H0 F H (σ.set i none) (ds.set i none) := by
  have get : ∀ {j : Nat} {s : Sym.S}, (ds.set i none)[j]? = some (some s) → i ≠ j ∧ ds[j]? = some (some s) := fun {j s} e => by
    by_cases hj : i = j
    · subst hj
      by_cases hl : i < ds.length
      · rw [List.getElem?_set_self hl] at e
        cases e
      · rw [List.getElem?_eq_none (by simp; omega)] at e
        cases e
    · rw [List.getElem?_set_ne hj] at e
      exact ⟨hj, e⟩
  refine ⟨S.gr, by simp [S.len], fun j s e => ?_, fun j k s t a e1 e2 m1 m2 q1 q2 => ?_⟩
  · obtain ⟨hj, e'⟩ := get e
    rw [List.getElem?_set_ne hj]
    exact S.at' j s e'
  · obtain ⟨n1, e1'⟩ := get e1
    obtain ⟨n2, e2'⟩ := get e2
    rw [List.getElem?_set_ne n1] at q1
    rw [List.getElem?_set_ne n2] at q2
    exact S.ap j k s t a e1' e2' m1 m2 q1 q2
/-! ### catching -/
def sTry (K : PySem.W.Frag) (Sv : Value) (i : Nat) (ts : Addr → Value → Option Addr → TS) (tb : WX → TS) : TS := fun D σ H => tb (wAs K Sv i ts (fun _ _ _ _ => False) D) D σ H
theorem kvs_split {F : Hp} : ∀ {fs : List (Str × D)} {gs : List (Str × V)}, Kvs K F fs gs → gs = (fs.map (·.1)).zip (gs.map (·.2)) ∧ Rps K F (fs.map (·.2)) (gs.map (·.2))
  | _, _, .nil => ⟨rfl, rfl⟩
  | _, _, .cons (a := p) (b := q) r t => by
    obtain ⟨h1, h2⟩ := kvs_split t
    refine ⟨?_, .cons r.2 h2⟩
    rw [List.map_cons, List.map_cons, List.zip_cons_cons, ← h1, r.1]
section
variable {α : Type} {enc : α → List D} {pre : α → Prop} {fn : α → Out}
/-- what the suite must do with an exception of the class at C -/
def Suit (K : PySem.W.Frag) (E : XK) (Sv : Value) (i : Nat) (ts : Addr → Value → Option Addr → TS) (ds : Env') (Po : Post) (C : Addr) (fs : List (Str × D)) : Prop :=
  PySem.W.exmOne K (.ref C) Sv = some true ∧ ∀ a dx, Run K E (ts a (.ref C) (some dx)) (ds.set i (some (.im (.exn a dx (fs.map (·.1)) (fs.map (·.2)))))) { Po with nx := fun ds' => Po.nx (ds'.set i none), bk := fun ds' => Po.bk (ds'.set i none), ct := fun ds' => Po.ct (ds'.set i none) }
theorem suit_go {Sv : Value} {ts : Addr → Value → Option Addr → TS} {fs : List (Str × D)} (h : Suit K E Sv i ts ds Po C fs) {F0 H0 F H F' H' : Hp} {σ : L2.St} {Dn : Ends} {gs : List (Str × V)} (S : Sd K F0 H0 F H σ ds) (W : Want K E F0 H0 F Po Dn) (g : Grow F H F' H') (hx : H' dx = some (.xd gs)) (r : Kvs K F' fs gs) :
    wAs K Sv i ts (fun _ _ _ _ => False) Dn (.ref C) (some dx) σ H' := by
  obtain ⟨h1, h2⟩ := h
  refine ⟨true, h1, fun _ ad hn => ?_, fun z => by cases z⟩
  obtain ⟨e1, e2⟩ := kvs_split r
  have ee : Ex F' (upd F' dx (.xd gs)) := fun b o hb => by
    by_cases q : b = dx
    · subst q
      rw [upd_same, ← hx]
      exact g.fh _ _ hb
    · rw [upd_ne q]
      exact hb
  have gg : Grow F H (upd F' dx (.xd gs)) H' := ⟨g.ff.trans ee, g.hh, fun b o hb => by
    by_cases q : b = dx
    · subst q
      rw [upd_same] at hb
      rw [hx]
      exact hb
    · rw [upd_ne q] at hb
      exact g.fh _ _ hb, fun b o n1 n2 n3 => by
    have q : b ≠ dx := fun q => by
      subst q
      have z := (g.hh _ _ n2).symm.trans hx
      cases z
      exact n3 trivial
    rw [upd_ne q]
    exact g.nw b o n1 n2 n3⟩
  refine h2 ad dx F0 H0 _ H' _ _ ((S.grow gg).set (d := .exn ad dx (fs.map (·.1)) (fs.map (·.2))) (v := .ref ad) ⟨rfl, gs.map (·.2), by rw [upd_same, ← e1], by rw [List.length_map, List.length_map, r.length], Rps.mono ee _ _ e2⟩) ⟨fun ds' F3 H3 σ3 p s3 e3 => W.nx _ F3 H3 _ p s3.dropS (gg.ff.trans e3), W.rt, fun ds' F3 H3 σ3 p s3 e3 => W.bk _ F3 H3 _ p s3.dropS (gg.ff.trans e3), fun ds' F3 H3 σ3 p s3 e3 => W.ct _ F3 H3 _ p s3.dropS (gg.ff.trans e3), W.xe⟩
theorem run_tryRet {Sv : Value} {ts : Addr → Value → Option Addr → TS} (a : α) (ha : EvA K tr ds (enc a)) (hp : pre a) (h1 : ∀ d, fn a = .ret d → Po.rt d) (h2 : ∀ C fs, fn a = .exc C fs → Suit K E Sv i ts ds Po C fs) :
    Run K E (sTry K Sv i ts fun W => tRet (tCallS (spF K enc pre fn) (WE W) tr)) ds Po := fun F0 H0 F H σ Dn S W =>
  ha F0 H0 F H σ S _ fun vs F1 H1 g1 r1 => ⟨F1, a, g1.fh, r1, hp, fun d' e v F' H' g r => W.rt v d' F' H' (h1 _ e) ((S.gr.trans g1).trans g) r, fun C fs e dx gs F' H' g hx r => suit_go (h2 _ _ e) S W (g1.trans g) hx r⟩
theorem run_tryAsg {Sv : Value} {ts : Addr → Value → Option Addr → TS} (a : α) {j : Nat} (ha : EvA K tr ds (enc a)) (hp : pre a) (h1 : ∀ d, fn a = .ret d → Po.nx (ds.set j (some (.im d)))) (h2 : ∀ C fs, fn a = .exc C fs → Suit K E Sv i ts ds Po C fs) :
    Run K E (sTry K Sv i ts fun W => tAsg (tCallS (spF K enc pre fn) (WE W) tr) (gName j)) ds Po := fun F0 H0 F H σ Dn S W =>
  ha F0 H0 F H σ S _ fun vs F1 H1 g1 r1 => ⟨F1, a, g1.fh, r1, hp, fun d' e v F' H' g r => W.nx _ _ _ _ (h1 _ e) ((S.grow (g1.trans g)).set r) (g1.trans g).ff, fun C fs e dx gs F' H' g hx r => suit_go (h2 _ _ e) S W (g1.trans g) hx r⟩
end
theorem lookup_zip : ∀ {fs : List Str} {xs : List D} {vs : List V} {F : Hp}, fs.length = vs.length → Rps K F xs vs → (fs.zip xs).lookup f = some d → ∃ v, (fs.zip vs).lookup f = some v ∧ Rp K F d v
  | [], _, _, _, _, _, h => by cases h
  | n :: fs, [], _, _, _, _, h => by cases h
  | n :: fs, x :: xs, [], _, hl, _, _ => by cases hl
  | n :: fs, x :: xs, v :: vs, F, hl, r, h => by
    obtain ⟨r1, r2⟩ := r.uncons
    rw [List.zip_cons_cons] at h ⊢
    rw [List.lookup_cons] at h ⊢
    cases q : f == n with
    | true =>
      rw [q] at h
      cases h
      exact ⟨v, rfl, r1⟩
    | false =>
      rw [q] at h
      exact lookup_zip (Nat.succ.inj hl) r2 h
theorem ev_xg {fs : List Str} (h : Ev K te ds (.exn a dx fs xs)) (T : XfC K C) (hno : PySem.W.findIn K (.ref C) f = some none) (hl : (fs.zip xs).lookup f = some d) : Ev K (tXg K a (.ref C) (some dx) f te) ds d := fun F0 H0 F H σ S Q q => h F0 H0 F H σ S _ fun v F1 H1 g1 r1 => by
  obtain ⟨rfl, vs, h2, h3, h4⟩ := r1
  obtain ⟨v, e1, e2⟩ := lookup_zip h3 h4 hl
  exact ⟨rfl, C, rfl, T, hno, dx, _, v, rfl, g1.fh _ _ h2, e1, q v F1 H1 g1 e2⟩
theorem et_isX {fs : List Str} {cv : V} {u : Value} (h : Ev K te ds (.exn a dx fs xs)) (T : ExcC K C) (hc : ∀ u', RelV cv u' → u' = u) (hk : PySem.W.kitOne K (.ref C) u = some b) : Ev K (tCB (rIsX K a (.ref C) (some dx)) (tCons te (tCons (tC cv) tNil))) ds (.bl b) := fun F0 H0 F H σ S Q q => h F0 H0 F H σ S _ fun v F1 H1 g1 r1 => by
  obtain ⟨rfl, vs, h2, h3, h4⟩ := r1
  exact ⟨C, dx, _, cv, u, b, rfl, rfl, g1.fh _ _ h2, T, rfl, hc, hk, q _ F1 H1 g1 rfl⟩
end
/-! calls in a try -/
section
variable {X : Cx} {CX : CXT} {k j : Nat} {f : Addr} {fd : FuncData} {ps : List Str} {sp : Sp} {E : L2.St → XK} {x : Str} {p pos : Pos} {e : Expr} {es : List Expr} {t : TA}
theorem pe_calS (c : Cal X.prog X.w X.K X.mg X.base CX k x ps [] sp) (hG : NoRep X.A) (room : Room j X.A) (hk : k ≤ j) (hg : Gl X x) (pas : ∀ σ, PassesAt CX X σ (E σ)) (ha : PA X (e :: es) t) (hdb : (x == ("__debug__" : Str)) = false := by decide)
    (h1 : starEach (e :: es) X.env = (false, eval e X.env) :: starEach es X.env := by rfl) (h2 : (backTo pos (starEach es X.env)).any (·.1) = false := by rfl) : PE X (.Call (.Name x p) (e :: es) [] pos) (tCallS sp E t) := by
  obtain ⟨f, fd, ds, h, hm, hk', bn, hd⟩ := c.ex
  refine ⟨fun pins s σ H Q I hh => ?_⟩
  refine wpAny_Call_Name_kw (ld_glob I hg hm (PySem.W.callWith_K (h₀ := X.base) I.ok.mod.kin hk' (thn (ha.run pos pins s σ H _ I hh) ?_) h1 h2) hdb)
  rintro us s1 ⟨vs, H1, I1, r, q⟩
  exact ⟨I1.kIn, run_fnG h hG (room.mono hk) bn hd (pas σ) I1 r (by rw [List.append_nil]; exact q)⟩
end
end Sym

/-! Sym12: x[::-1], a list or a text. -/
namespace Sym
open PySem PySem.Spec PyProof.Rows L2 Evl
/-- z[::-1] -/
def tRevS (te : TE) : TE := fun σ H Q => te σ H fun x H1 => ∃ l : List Nat, x = .str (S' l) ∧ l.length ≤ sizeLine ∧ Q (.str (S' l.reverse)) H1
theorem rev_pick (l : List Nat) : ((Builtin.Str.strSliceIndices none none (-1) (S' l).length).filterMap ((S' l).cps[·]?)) = l.reverse := by
  unfold Builtin.Str.strSliceIndices
  have h1 : ¬ ((-1 : Int) > 0) := by decide
  simp only [h1, if_false]
  rw [PySem.W.krv_sliceRange, PySem.W.krv_range, List.filterMap_reverse]
  have h := PySem.W.krv_all l.toArray
  have e : (S' l).length = l.toArray.size := rfl
  rw [e, h]
theorem pe_revS {X : Cx} {e : Expr} {te : TE} {k : Nat} {p1 p2 p3 pos : Pos} (he : PE X e te) : PE X (.Subscript e (.Slice none none (some (.UnaryOp .USub (.Constant (.int 1) k p1) p2)) p3) pos) (tRevS te) := by
  refine ⟨fun pins s σ H Q I h => ?_⟩
  refine Subscript_ (thn (he.run pins s σ H _ I h) fun v s1 ⟨x, H1, I1, r1, q1⟩ => ?_)
  obtain ⟨z, ex, hz, q⟩ := q1
  subst ex
  obtain ⟨tz, rfl⟩ := r1
  have hst : PO X (some (.UnaryOp .USub (.Constant (.int 1) k p1) p2)) (tPart (tUn (rU fun i => .int (-i)) (tC (.int 1)))) := po_some (pe_un un_neg pe_int)
  refine wpAny_Slice (thn (po_none.run pins s1 σ H1 (fun o H2 => o = none ∧ H2 = H1) I1 ⟨rfl, rfl⟩) fun vl s2 ⟨l, H2, I2, pl, el, e2⟩ => ?_)
  subst el; subst e2
  refine thn (po_none.run pins s2 σ H2 (fun o H3 => o = none ∧ H3 = H2) I2 ⟨rfl, rfl⟩) fun vu s3 ⟨u, H3, I3, pu, eu, e3⟩ => ?_
  subst eu; subst e3
  refine thn (hst.run pins s3 σ H3 (fun o H4 => o = some (-1) ∧ H4 = H3) I3 ⟨1, rfl, -1, rfl, rfl, rfl⟩) fun vs s4 ⟨o, H4, I4, ps, eo, e4⟩ => ?_
  subst eo; subst e4
  have I5 : Inv X pins σ H4 { s4 with heap := s4.heap.push { cls := .type "slice", data := .fields #[vl, vu, vs] } } := I4.kept (t' := s4.toks) fun b ob y => Heap.get?_push_of_some _ y
  obtain ⟨l, rfl, hl⟩ := IsPart.raw pl
  obtain ⟨u, rfl, hu⟩ := IsPart.raw pu
  obtain ⟨st, rfl, hs⟩ := IsPart.raw ps
  have hl0 : l.map (·.1) = none := hl
  have hu0 : u.map (·.1) = none := hu
  have hs0 : st.map (·.1) = some (-1) := hs
  have hd : (st.map (·.1)).getD 1 = -1 := by rw [hs0] <;> rfl
  show wpAny (model X.prog X.w) X.A (subscriptTail e (.Slice none none (some (.UnaryOp .USub (.Constant (.int 1) k p1) p2)) p3) (.str (S' z) tz) (.ref s4.heap.objs.size)) (EP X pins σ Q) X.xe _
  refine tail_any (ops := [.str (S' z) tz, .ref s4.heap.objs.size]) (typeIs_str _ _ _) (PySem.F.slot_str_getitem.lookup) ?_ (by with_unfolding_all rfl)
  refine wpAny_getItem_str_slice (l := l) (u := u) (st := st) ⟨_, Heap.get?_push_size _ rfl, rfl, rfl⟩ (by rw [hd] <;> rfl) ?_
  have hm : sliceMade (S' z) tz l u st = .str (S' z.reverse) := by
    unfold sliceMade slicePicked
    rw [hd, hl0, hu0, rev_pick]
    rfl
  rw [hm]
  exact ⟨by rw [s_len, List.length_reverse]; exact hz, .str _, H4, I5.tok _, ⟨_, rfl⟩, q⟩
def tRevG (K : PySem.W.Frag) (te : TE) : TE := tOrE (tRevL K te) (tRevS te)
theorem pe_revG {X : Cx} {e : Expr} {te : TE} {k : Nat} {p1 p2 p3 pos : Pos} (he : PE X e te) : PE X (.Subscript e (.Slice none none (some (.UnaryOp .USub (.Constant (.int 1) k p1) p2)) p3) pos) (tRevG X.K te) := pe_alt (pe_revL he) (pe_revS he)
section
variable {K : PySem.W.Frag} {ds : Env'} {te : TE} {l : List Nat} {xs : List D}
theorem ev_revS (h : Ev K te ds (.str (S' l))) (hl : l.length ≤ 16777216) : Ev K (tRevG K te) ds (.str (S' l.reverse)) := ev_r fun F0 H0 F H σ S Q q => h F0 H0 F H σ S _ fun v F1 H1 g1 r1 => ⟨l, r1, sz_of hl, q _ F1 H1 g1 rfl⟩
theorem rps_rev {F : Hp} : ∀ {xs : List D} {vs : List V}, Rps K F xs vs → Rps K F xs.reverse vs.reverse
  | [], vs, h => by
    have e : vs = [] := h
    rw [e]
    exact rfl
  | x :: xs, vs, h => by
    obtain ⟨v, r, rfl, h1, h2⟩ := h
    rw [List.reverse_cons, List.reverse_cons]
    exact (rps_rev h2).snoc h1
theorem ev_revL (h : Ev K te ds (.lst xs)) : Ev K (tRevG K te) ds (.lst xs.reverse) := ev_l fun F0 H0 F H σ S Q q => h F0 H0 F H σ S _ fun v F1 H1 g1 r1 => by
  obtain ⟨p, vs, rfl, h1, h2⟩ := r1
  refine ⟨p, vs, rfl, ex_l g1.fh h1, fun n hn => ?_⟩
  have gr := Grow.new (o := .lst vs.reverse) g1.fh hn
  exact q _ _ _ (g1.trans gr) ⟨n, _, rfl, .inl (.inl upd_same), Rps.mono gr.ff _ _ (rps_rev h2)⟩
end
end Sym
namespace Sym
open PySem PySem.Spec PyProof.Rows L2 Evl
/-! is, is not: None, True, False -/
def gIsW : R2 := fun x y H Q => gIs x y H Q ∨ ∃ a b, x = .bl a ∧ y = .bl b ∧ Q (.bl (decide (a = b))) H
theorem op_gIsW {X : Cx} : OpR X (compareOp .Is) gIsW := .or op_gIs op_is_bl
def gIsNotW : R2 := fun x y H Q => gIsNot x y H Q ∨ ∃ a b, x = .bl a ∧ y = .bl b ∧ Q (.bl (!decide (a = b))) H
theorem op_gIsNotW {X : Cx} : OpR X (compareOp .IsNot) gIsNotW := .or op_gIsNot op_isnot_bl
section
variable {K : PySem.W.Frag} {E : XK} {ds ds' : Env'} {te : TE} {tt : TT} {tb : TS} {b c : Bool} {xs : List D} {P : Post} {tr : TA}
theorem o_isB : Op2 K gIsW (.bl b) (.bl c) (.bl (decide (b = c))) := fun F H u v e r1 r2 Q q => .inr ⟨b, c, r1, r2, q _ F H (.refl e) rfl⟩
theorem o_notB : Op2 K gIsNotW (.bl b) (.bl c) (.bl (!decide (b = c))) := fun F H u v e r1 r2 Q q => .inr ⟨b, c, r1, r2, q _ F H (.refl e) rfl⟩
theorem o_isNW : Op2 K gIsW .non .non (.bl true) := fun F H u v e r1 r2 Q q => .inl (o_isN F H u v e r1 r2 Q q)
/-- while: an invariant with a measure -/
theorem run_while (I : Nat → Env' → Prop) (n : Nat) (h0 : I n ds)
    (hs : ∀ m ds1, I m ds1 → ∃ b, EvT K tt ds1 b ∧ (b = true → Run K E tb ds1 { P with nx := fun ds' => ∃ m', m' < m ∧ I m' ds', ct := fun ds' => ∃ m', m' < m ∧ I m' ds', bk := P.nx }) ∧ (b = false → P.nx ds1)) : Run K E (tWhile tt tb) ds P := fun F0 H0 F H σ Dn S W => by
  refine ⟨fun m σ' H' => ∃ F' ds1, Sd K F0 H0 F' H' σ' ds1 ∧ I m ds1 ∧ Ex F F', ⟨n, F, ds, S, h0, Ex.refl F⟩, ?_⟩
  rintro m σ' H' ⟨F', ds1, S', hI, e⟩
  obtain ⟨b, ht, h1, h2⟩ := hs m ds1 hI
  refine ht F0 H0 F' H' σ' S' _ fun F2 H2 g2 => ?_
  have e2 : Ex F F2 := e.trans g2.ff
  cases b with
  | true =>
    rw [if_pos rfl]
    refine ⟨fun σ3 H3 => ∃ m', m' < m ∧ ∃ F3 ds3, Sd K F0 H0 F3 H3 σ3 ds3 ∧ I m' ds3 ∧ Ex F F3, fun σ3 H3 h => h, ?_⟩
    refine h1 rfl F0 H0 F2 H2 σ' _ (S'.grow g2) ⟨?_, W.rt, fun ds F3 H3 σ3 p s3 e3 => W.nx ds F3 H3 σ3 p s3 (e2.trans e3), ?_, W.xe⟩
    · rintro ds3 F3 H3 σ3 ⟨m', hm, hI'⟩ s3 e3
      exact ⟨m', hm, F3, ds3, s3, hI', e2.trans e3⟩
    · rintro ds3 F3 H3 σ3 ⟨m', hm, hI'⟩ s3 e3
      exact ⟨m', hm, F3, ds3, s3, hI', e2.trans e3⟩
  | false =>
    rw [if_neg (by decide)]
    exact W.nx ds1 F2 H2 σ' (h2 rfl) (S'.grow g2) e2
end
end Sym
namespace Sym
open PySem PySem.Spec PyProof.Rows L2 Evl
section
variable {X : Cx}
theorem call_reprS : CallR X (.builtin "repr") (fun xs H Q => ∃ z, xs = [.str z] ∧ (reprText z).length ≤ sizeLine ∧ Q (.str (reprText z)) H) := by
  intro pins s σ H xs us Q I r h
  obtain ⟨z, rfl, hz, q⟩ := h
  obtain ⟨u, rfl, t, rfl⟩ := vals1 r
  exact PySem.P.repr_of_str ⟨.str _, H, I.tok _, ⟨_, rfl⟩, q⟩ hz
theorem call_reprB : CallR X (.builtin "repr") (fun xs H Q => ∃ b, xs = [.bl b] ∧ Q (.str (if b then "True" else "False" : String)) H) := by
  intro pins s σ H xs us Q I r h
  obtain ⟨b, rfl, q⟩ := h
  obtain ⟨u, rfl, rx⟩ := vals1 r
  cases rx
  exact PySem.P.repr_of_bool ⟨.str _, H, I.tok _, ⟨_, by cases b <;> rfl⟩, q⟩
/-- repr of what is no dict -/
def gReprW (K : PySem.W.Frag) : List V → Hp → VK → Prop := fun xs H Q => gRepr K xs H Q ∨ (∃ z, xs = [.str z] ∧ (reprText z).length ≤ sizeLine ∧ Q (.str (reprText z)) H) ∨ ∃ b, xs = [.bl b] ∧ Q (.str (if b then "True" else "False" : String)) H
theorem call_gReprW (hG : NoRep X.A) (hu : X.A.units + 64 < cLine) : CallR X (.builtin "repr") (gReprW X.K) := .or (call_gRepr hG hu) (.or call_reprS call_reprB)
end
section
variable {K : PySem.W.Frag} {x z : D} {b : Bool} {l : Str}
theorem c_rW (h : OpN K (gRepr K) [x] z) : OpN K (gReprW K) [x] z := fun F H us e r Q q => .inl (h F H us e r Q q)
theorem c_reprB : OpN K (gReprW K) [.bl b] (.str (if b then "True" else "False" : String)) := fun F H us e r Q q => by
  obtain ⟨v, rfl, h⟩ := rps1 r
  have e1 : v = .bl b := h
  subst e1
  exact .inr (.inr ⟨b, rfl, q _ F H (.refl e) rfl⟩)
theorem c_reprS (h : (reprText l).length ≤ 16777216) : OpN K (gReprW K) [.str l] (.str (reprText l)) := fun F H us e r Q q => by
  obtain ⟨v, rfl, h'⟩ := rps1 r
  have e1 : v = .str l := h'
  subst e1
  exact .inr (.inl ⟨l, rfl, sz_of h, q _ F H (.refl e) rfl⟩)
end
end Sym

namespace Tw
open PySem PySem.Spec PyProof.Rows L2 Sym
abbrev N__law_alphabet : List Str := ["row", "letters", "first", "second", "third"]
def t__law_alphabet (P : Program) (w : World) (K : PySem.W.Frag) (E : XK)  : TS :=
  (tSeq (tAsg (tC (V.str (S' [97, 98, 99, 100, 101, 102, 103, 104, 105, 106, 107, 108, 109, 110, 111, 112, 113, 114, 115, 116, 117, 118, 119, 120, 121, 122]))) (gName 1))
  (tSeq (tAsg (tIx P w K (tVar 0) (tC (V.int 1))) (gName 2))
  (tSeq (tAsg (tOp (gAdd K) (tOp (gAdd K) (tVar 2) (tC (V.int 1))) (tIx P w K (tVar 0) (tC (V.int 2)))) (gName 3))
  (tSeq (tAsg (tOp (gAdd K) (tOp (gAdd K) (tVar 3) (tC (V.int 1))) (tIx P w K (tVar 0) (tC (V.int 3)))) (gName 4))
  (tSeq (tIfS (tTest (tOp (gEq K) (tIx P w K (tVar 0) (tC (V.int 0))) (tC (V.int 0)))) (tRet (tIx P w K (tVar 1) (tVar 2))) tNext)
  (tSeq (tIfS (tTest (tOp (gEq K) (tIx P w K (tVar 0) (tC (V.int 0))) (tC (V.int 1)))) (tRet (tOp (gAdd K) (tOp (gAdd K) (tIx P w K (tVar 1) (tVar 2)) (tIx P w K (tVar 1) (tVar 3))) (tIx P w K (tVar 1) (tVar 4)))) tNext)
  (tRet (tOp (gAdd K) (tIx P w K (tVar 1) (tVar 2)) (tIx P w K (tVar 1) (tVar 3))))))))))
abbrev N__law_digits : List Str := ["cell", "bases", "row", "number", "base", "seed", "k", "twice"]
def t__law_digits (P : Program) (w : World) (K : PySem.W.Frag) (E : XK)  : TS :=
  (tSeq (tAsg (tLst tNil) (gName 2))
  (tSeq (tAsg (tCB gInt (tCons (tVar 0) tNil)) (gName 3))
  (tSeq (tIfS (tTest (tOp gGe (tVar 3) (tOp gPow (tC (V.int 10)) (tC (V.int 18))))) (tSeq (tAsg (tOp gMinus (tVar 3) (tOp gPow (tC (V.int 10)) (tC (V.int 18)))) (gName 3))
  (tSeq (tFor (iAny K (tVar 1)) (gName 4) (tSeq (tDrop (tBM K "list" rAppend (tVar 2) (tCons (tOp gMod (tCB gInt (tCons (tVar 3) tNil)) (tVar 4)) tNil)))
  (tAsg (tOp gFdiv (tCB gInt (tCons (tVar 3) tNil)) (tVar 4)) (gName 3))))
  (tRet (tVar 2)))) tNext)
  (tSeq (tAsg (tOp gMod (tCB gInt (tCons (tVar 3) tNil)) (tC (V.int 2147483629))) (gName 5))
  (tSeq (tFor (iRng1 (tCons (tCB (gLen P w K) (tCons (tVar 1) tNil)) tNil)) (gName 6) (tSeq (tAsg (tOp gMod (tCB gInt (tCons (tOp (gAdd K) (tOp (gAdd K) (tOp gMul (tVar 5) (tC (V.int 48271))) (tOp gMul (tC (V.int 974711)) (tVar 6))) (tC (V.int 12345))) tNil)) (tC (V.int 2147483647))) (gName 5))
  (tSeq (tAsg (tOp gMod (tCB gInt (tCons (tOp gMul (tVar 5) (tOp (gAdd K) (tOp gFdiv (tVar 5) (tC (V.int 65537))) (tC (V.int 3)))) tNil)) (tC (V.int 2147483629))) (gName 7))
  (tDrop (tBM K "list" rAppend (tVar 2) (tCons (tOp gMod (tOp gFdiv (tVar 7) (tC (V.int 19))) (tIx P w K (tVar 1) (tVar 6))) tNil))))))
  (tRet (tVar 2)))))))
abbrev N__law_cell : List Str := ["script", "k", "seed", "cell"]
def t__law_cell (P : Program) (w : World) (K : PySem.W.Frag) (E : XK)  : TS :=
  (tSeq (tIfS (tTest (tOp gLt (tVar 1) (tCB (gLen P w K) (tCons (tVar 0) tNil)))) (tRet (tIx P w K (tVar 0) (tVar 1))) tNext)
  (tSeq (tAsg (tC (V.int 17)) (gName 2))
  (tSeq (tFor (iAny K (tVar 0)) (gName 3) (tAsg (tOp gMod (tCB gInt (tCons (tOp (gAdd K) (tOp gMul (tVar 2) (tC (V.int 31))) (tOp gMod (tCB gInt (tCons (tVar 3) tNil)) (tC (V.int 1000003)))) tNil)) (tC (V.int 1000003))) (gName 2)))
  (tRet (tOp gMod (tCB gInt (tCons (tOp gMul (tOp gMul (tOp (gAdd K) (tVar 2) (tC (V.int 7))) (tOp (gAdd K) (tVar 1) (tC (V.int 3)))) (tC (V.int 69621))) tNil)) (tC (V.int 2147483647)))))))
abbrev N__law_swapped : List Str := ["sign"]
def t__law_swapped (P : Program) (w : World) (K : PySem.W.Frag) (E : XK)  : TS :=
  (tSeq (tIfS (tTest (tOp (gEq K) (tVar 0) (tM0 rLow (tVar 0)))) (tRet (tM0 rUpp (tVar 0))) tNext)
  (tRet (tM0 rLow (tVar 0))))
abbrev N__law_struck : List Str := ["word", "kept_signs", "sign"]
def t__law_struck (P : Program) (w : World) (K : PySem.W.Frag) (E : XK) (sp__law_swapped : Sp) : TS :=
  (tSeq (tAsg (tLst tNil) (gName 1))
  (tSeq (tFor (iAny K (tVar 0)) (gName 2) (tIfS (tAnd (tTest (tOp gGt (tCB (gLen P w K) (tCons (tVar 1) tNil)) (tC (V.int 0)))) (tTest (tOp (gEq K) (tIx P w K (tVar 1) (tUn (rU fun i => .int (-i)) (tC (V.int 1)))) (tCall sp__law_swapped [] E (tCons (tVar 2) tNil))))) (tDrop (tBM0 K "list" rPop (tVar 1))) (tDrop (tBM K "list" rAppend (tVar 1) (tCons (tVar 2) tNil)))))
  (tRet (tM1 (rJoin K) (tC (V.str (S' []))) (tVar 1)))))
abbrev N__law_undone : List Str := ["word", "k"]
def t__law_undone (P : Program) (w : World) (K : PySem.W.Frag) (E : XK) (sp__law_swapped : Sp) : TS :=
  (tRet (tM1 (rJoin K) (tC (V.str (S' []))) (tLc (iRng1 (tCons (tCB (gLen P w K) (tCons (tVar 0) tNil)) tNil)) (gName 1) tYes (tCall sp__law_swapped [] E (tCons (tIx P w K (tVar 0) (tOp gMinus (tOp gMinus (tCB (gLen P w K) (tCons (tVar 0) tNil)) (tC (V.int 1))) (tVar 1))) tNil)) [1])))
abbrev N__law_own_detour : List Str := ["one", "two"]
def t__law_own_detour (P : Program) (w : World) (K : PySem.W.Frag) (E : XK) (sp__law_struck : Sp) (sp__law_undone : Sp) : TS :=
  (tRet (tCall sp__law_struck [] E (tCons (tOp (gAdd K) (tOp (gAdd K) (tOp (gAdd K) (tVar 0) (tVar 1)) (tCall sp__law_undone [] E (tCons (tVar 0) tNil))) (tCall sp__law_undone [] E (tCons (tVar 1) tNil))) tNil)))
abbrev N__law_word : List Str := ["alphabet", "row", "many", "signs", "letter", "k"]
def t__law_word (P : Program) (w : World) (K : PySem.W.Frag) (E : XK)  : TS :=
  (tSeq (tAsg (tOp (gAdd K) (tLc (iAny K (tVar 0)) (gName 4) tYes (tVar 4) [4]) (tLc (iAny K (tVar 0)) (gName 4) tYes (tM0 rUpp (tVar 4)) [4])) (gName 3))
  (tRet (tM1 (rJoin K) (tC (V.str (S' []))) (tLc (iRng1 (tCons (tVar 2) tNil)) (gName 5) tYes (tIx P w K (tVar 3) (tOp gMod (tCB gInt (tCons (tIx P w K (tVar 1) (tVar 5)) tNil)) (tCB (gLen P w K) (tCons (tVar 3) tNil)))) [5]))))
abbrev N__law_word_pair : List Str := ["alphabet", "row", "parts", "one", "two", "k"]
def t__law_word_pair (P : Program) (w : World) (K : PySem.W.Frag) (E : XK) (sp__law_undone : Sp) (sp__law_own_detour : Sp) (sp__law_word : Sp) : TS :=
  (tSeq (tAsg (tLc (iRng1 (tCons (tC (V.int 4)) tNil)) (gName 5) tYes (tCall sp__law_word [] E (tCons (tVar 0) (tCons (tSl (gSl K) (tVar 1) (tPart (tOp (gAdd K) (tC (V.int 6)) (tOp gMul (tC (V.int 3)) (tVar 5)))) (tPart (tOp (gAdd K) (tC (V.int 9)) (tOp gMul (tC (V.int 3)) (tVar 5))))) (tCons (tIx P w K (tVar 1) (tOp (gAdd K) (tC (V.int 1)) (tVar 5))) tNil)))) [5]) (gName 2))
  (tSeq (tAsg (tCall sp__law_own_detour [] E (tCons (tOp (gAdd K) (tIx P w K (tVar 0) (tC (V.int 0))) (tSl (gSl K) (tIx P w K (tVar 2) (tC (V.int 0))) tNoPart (tPart (tC (V.int 1))))) (tCons (tOp (gAdd K) (tIx P w K (tVar 0) (tOp gMinus (tCB (gLen P w K) (tCons (tVar 0) tNil)) (tC (V.int 1)))) (tSl (gSl K) (tIx P w K (tVar 2) (tC (V.int 1))) tNoPart (tPart (tC (V.int 1))))) tNil))) (gName 3))
  (tSeq (tAsg (tCall sp__law_own_detour [] E (tCons (tSl (gSl K) (tIx P w K (tVar 2) (tC (V.int 2))) tNoPart (tPart (tC (V.int 2)))) (tCons (tSl (gSl K) (tIx P w K (tVar 2) (tC (V.int 3))) tNoPart (tPart (tC (V.int 2)))) tNil))) (gName 4))
  (tSeq (tIfS (tTest (tOp (gEq K) (tIx P w K (tVar 1) (tC (V.int 0))) (tC (V.int 0)))) (tRet (tLst (tCons (tOp (gAdd K) (tOp (gAdd K) (tIx P w K (tVar 2) (tC (V.int 0))) (tIx P w K (tVar 2) (tC (V.int 1)))) (tIx P w K (tVar 2) (tC (V.int 2)))) (tCons (tOp (gAdd K) (tOp (gAdd K) (tIx P w K (tVar 2) (tC (V.int 0))) (tIx P w K (tVar 2) (tC (V.int 2)))) (tIx P w K (tVar 2) (tC (V.int 1)))) tNil)))) tNext)
  (tSeq (tIfS (tTest (tOp (gEq K) (tIx P w K (tVar 1) (tC (V.int 0))) (tC (V.int 1)))) (tRet (tLst (tCons (tOp (gAdd K) (tOp (gAdd K) (tOp (gAdd K) (tIx P w K (tVar 2) (tC (V.int 0))) (tVar 3)) (tVar 4)) (tIx P w K (tVar 2) (tC (V.int 1)))) (tCons (tOp (gAdd K) (tOp (gAdd K) (tOp (gAdd K) (tIx P w K (tVar 2) (tC (V.int 0))) (tVar 4)) (tVar 3)) (tIx P w K (tVar 2) (tC (V.int 1)))) tNil)))) tNext)
  (tSeq (tIfS (tTest (tOp (gEq K) (tIx P w K (tVar 1) (tC (V.int 0))) (tC (V.int 2)))) (tRet (tLst (tCons (tCall sp__law_own_detour [] E (tCons (tVar 3) (tCons (tVar 4) tNil))) (tCons (tC (V.str (S' []))) tNil)))) tNext)
  (tSeq (tIfS (tTest (tOp (gEq K) (tIx P w K (tVar 1) (tC (V.int 0))) (tC (V.int 3)))) (tRet (tLst (tCons (tOp (gAdd K) (tVar 3) (tIx P w K (tVar 2) (tC (V.int 0)))) (tCons (tOp (gAdd K) (tIx P w K (tVar 2) (tC (V.int 0))) (tVar 3)) tNil)))) tNext)
  (tSeq (tIfS (tTest (tOp (gEq K) (tIx P w K (tVar 1) (tC (V.int 0))) (tC (V.int 4)))) (tRet (tLst (tCons (tOp (gAdd K) (tOp (gAdd K) (tIx P w K (tVar 2) (tC (V.int 0))) (tIx P w K (tVar 2) (tC (V.int 1)))) (tCall sp__law_undone [] E (tCons (tIx P w K (tVar 2) (tC (V.int 1))) tNil))) (tCons (tOp (gAdd K) (tIx P w K (tVar 2) (tC (V.int 0))) (tSl (gSl K) (tIx P w K (tVar 2) (tC (V.int 2))) tNoPart (tPart (tIx P w K (tVar 1) (tC (V.int 5)))))) tNil)))) tNext)
  (tRet (tLst (tCons (tOp (gAdd K) (tIx P w K (tVar 2) (tC (V.int 0))) (tIx P w K (tVar 2) (tC (V.int 1)))) (tCons (tOp (gAdd K) (tIx P w K (tVar 2) (tC (V.int 2))) (tIx P w K (tVar 2) (tC (V.int 3)))) tNil))))))))))))
abbrev N_is_alphabet : List Str := ["value", "letter", "index"]
def t_is_alphabet (P : Program) (w : World) (K : PySem.W.Frag) (E : XK)  : TS :=
  (tSeq (tIfS (tNot (tTest (tChain gLe gLe (tC (V.int 1)) (tCB (gLen P w K) (tCons (tVar 0) tNil)) (tC (V.int 4))))) (tRet (tC (V.bl false))) tNext)
  (tSeq (tFor (iAny K (tVar 0)) (gName 1) (tIfS (tTest (tOp (gNotIn P w K) (tVar 1) (tC (V.str (S' [97, 98, 99, 100, 101, 102, 103, 104, 105, 106, 107, 108, 109, 110, 111, 112, 113, 114, 115, 116, 117, 118, 119, 120, 121, 122]))))) (tRet (tC (V.bl false))) tNext))
  (tSeq (tFor (iRng2 (tCons (tC (V.int 1)) (tCons (tCB (gLen P w K) (tCons (tVar 0) tNil)) tNil))) (gName 2) (tIfS (tNot (tTest (tOp gLt (tIx P w K (tVar 0) (tOp gMinus (tVar 2) (tC (V.int 1)))) (tIx P w K (tVar 0) (tVar 2))))) (tRet (tC (V.bl false))) tNext))
  (tRet (tC (V.bl true))))))
abbrev N_check_alphabet : List Str := ["alphabet"]
def t_check_alphabet (P : Program) (w : World) (K : PySem.W.Frag) (E : XK) (sp_is_alphabet : Sp) (C_BadAlphabet : Addr) : TS :=
  (tIfS (tNot (tTruG K (tCall sp_is_alphabet [] E (tCons (tVar 0) tNil)))) (sRai C_BadAlphabet "alphabet" E (tCons (tVar 0) tNil)) tNext)
abbrev N_is_word : List Str := ["alphabet", "value", "signs", "sign"]
def t_is_word (P : Program) (w : World) (K : PySem.W.Frag) (E : XK)  : TS :=
  (tSeq (tAsg (tOp (gAdd K) (tVar 0) (tM0 rUpp (tVar 0))) (gName 2))
  (tSeq (tFor (iAny K (tVar 1)) (gName 3) (tIfS (tTest (tOp (gNotIn P w K) (tVar 3) (tVar 2))) (tRet (tC (V.bl false))) tNext))
  (tRet (tC (V.bl true)))))
abbrev N_check_word : List Str := ["alphabet", "word"]
def t_check_word (P : Program) (w : World) (K : PySem.W.Frag) (E : XK) (sp_is_word : Sp) (C_BadWord : Addr) : TS :=
  (tIfS (tNot (tTruG K (tCall sp_is_word [] E (tCons (tVar 0) (tCons (tVar 1) tNil))))) (sRai C_BadWord "word" E (tCons (tVar 1) tNil)) tNext)
abbrev N_check_words : List Str := ["alphabet", "words", "word"]
def t_check_words (P : Program) (w : World) (K : PySem.W.Frag) (E : XK) (sp_check_word : Sp) (sp_check_alphabet : Sp) : TS :=
  (tSeq (tDrop (tCall sp_check_alphabet [] E (tCons (tVar 0) tNil)))
  (tFor (iAny K (tVar 1)) (gName 2) (tDrop (tCall sp_check_word [] E (tCons (tVar 0) (tCons (tVar 2) tNil))))))
abbrev N_numbered : List Str := ["values", "numbers", "rows", "one", "row", "value"]
def t_numbered (P : Program) (w : World) (K : PySem.W.Frag) (E : XK)  : TS :=
  (tSeq (tAsg (tDict P w) (gName 1))
  (tSeq (tAsg (tLst tNil) (gName 2))
  (tSeq (tFor (iAny K (tVar 0)) (gName 3) (tSeq (tAsg (tLst tNil) (gName 4))
  (tSeq (tFor (iAny K (tVar 3)) (gName 5) (tSeq (tIfS (tTest (tOp (gNotIn P w K) (tVar 5) (tVar 1))) (sPut P w K (tVar 1) (tVar 5) (tCB (gLen P w K) (tCons (tVar 1) tNil))) tNext)
  (tDrop (tBM K "list" rAppend (tVar 4) (tCons (tIx P w K (tVar 1) (tVar 5)) tNil)))))
  (tDrop (tBM K "list" rAppend (tVar 2) (tCons (tCB (gTuple K) (tCons (tVar 4) tNil)) tNil))))))
  (tRet (tCB (gTuple K) (tCons (tVar 2) tNil))))))
abbrev N_sign_index : List Str := ["alphabet", "sign"]
def t_sign_index (P : Program) (w : World) (K : PySem.W.Frag) (E : XK)  : TS :=
  (tRet (tM1 rSIdx (tVar 0) (tM0 rLow (tVar 1))))
abbrev N_sign_direction : List Str := ["sign"]
def t_sign_direction (P : Program) (w : World) (K : PySem.W.Frag) (E : XK)  : TS :=
  (tSeq (tIfS (tTest (tOp (gEq K) (tVar 0) (tM0 rLow (tVar 0)))) (tRet (tC (V.int 1))) tNext)
  (tRet (tUn (rU fun i => .int (-i)) (tC (V.int 1)))))
abbrev N_road_of : List Str := ["alphabet", "word", "row", "place", "index"]
def t_road_of (P : Program) (w : World) (K : PySem.W.Frag) (E : XK) (sp_sign_direction : Sp) (sp_sign_index : Sp) : TS :=
  (tSeq (tAsg (tCall sp_sign_index [] E (tCons (tVar 0) (tCons (tIx P w K (tVar 1) (tVar 3)) tNil))) (gName 4))
  (tSeq (tIfS (tTest (tOp (gEq K) (tCall sp_sign_direction [] E (tCons (tIx P w K (tVar 1) (tVar 3)) tNil)) (tC (V.int 1)))) (tRet (tTup (tCons (tIx P w K (tVar 2) (tVar 3)) (tCons (tVar 4) tNil)))) tNext)
  (tRet (tTup (tCons (tIx P w K (tVar 2) (tOp (gAdd K) (tVar 3) (tC (V.int 1)))) (tCons (tVar 4) tNil))))))
abbrev N_counts_along : List Str := ["alphabet", "word", "row", "counts", "values", "place", "sign", "road", "one"]
def t_counts_along (P : Program) (w : World) (K : PySem.W.Frag) (E : XK) (sp_sign_direction : Sp) (sp_road_of : Sp) : TS :=
  (tSeq (tAsg (tDict P w) (gName 3))
  (tSeq (tAsg (tLst (tCons (tTup tNil) tNil)) (gName 4))
  (tSeq (tFor (iEnumG K (tCons (tVar 1) tNil)) (gTup K 2 (gCons (gName 5) (gCons (gName 6) gNil))) (tSeq (tAsg (tCall sp_road_of [] E (tCons (tVar 0) (tCons (tVar 1) (tCons (tVar 2) (tCons (tVar 5) tNil))))) (gName 7))
  (tSeq (sPut P w K (tVar 3) (tVar 7) (tOp (gAdd K) (tGet2 P w K (tVar 3) (tVar 7) (tC (V.int 0))) (tCall sp_sign_direction [] E (tCons (tVar 6) tNil))))
  (tDrop (tBM K "list" rAppend (tVar 4) (tCons (tCB (gTuple K) (tCons (tLc (iAny K (tCB (gSorted P w K) (tCons (tVar 3) tNil))) (gName 8) (tTest (tOp (gNe K) (tIx P w K (tVar 3) (tVar 8)) (tC (V.int 0)))) (tTup (tCons (tIx P w K (tVar 8) (tC (V.int 0))) (tCons (tIx P w K (tVar 8) (tC (V.int 1))) (tCons (tIx P w K (tVar 3) (tVar 8)) tNil)))) [8]) tNil)) tNil))))))
  (tRet (tVar 4)))))
abbrev N_next_classes : List Str := ["alphabet", "words", "rows", "word", "row"]
def t_next_classes (P : Program) (w : World) (K : PySem.W.Frag) (E : XK) (sp_numbered : Sp) (sp_counts_along : Sp) : TS :=
  (tRet (tCall sp_numbered [] E (tCons (tLc (iZipG K (tCons (tVar 1) (tCons (tVar 2) tNil))) (gTup K 2 (gCons (gName 3) (gCons (gName 4) gNil))) tYes (tCall sp_counts_along [] E (tCons (tVar 0) (tCons (tVar 3) (tCons (tVar 4) tNil)))) [3, 4]) tNil)))
abbrev N_raw_classes : List Str := ["alphabet", "words", "storeys", "rows", "_", "word", "place"]
def t_raw_classes (P : Program) (w : World) (K : PySem.W.Frag) (E : XK) (sp_next_classes : Sp) : TS :=
  (tSeq (tAsg (tCB (gTuple K) (tCons (tLc (iAny K (tVar 1)) (gName 5) tYes (tCB (gTuple K) (tCons (tLc (iRng1 (tCons (tOp (gAdd K) (tCB (gLen P w K) (tCons (tVar 5) tNil)) (tC (V.int 1))) tNil)) (gName 6) tYes (tC (V.int 0)) [6]) tNil)) [5]) tNil)) (gName 3))
  (tSeq (tFor (iRng1 (tCons (tVar 2) tNil)) (gName 4) (tAsg (tCall sp_next_classes [] E (tCons (tVar 0) (tCons (tVar 1) (tCons (tVar 3) tNil)))) (gName 3)))
  (tRet (tVar 3))))
abbrev N_classes : List Str := ["alphabet", "words", "storeys"]
def t_classes (P : Program) (w : World) (K : PySem.W.Frag) (E : XK) (sp_raw_classes : Sp) (sp_check_words : Sp) : TS :=
  (tSeq (tDrop (tCall sp_check_words [] E (tCons (tVar 0) (tCons (tVar 1) tNil))))
  (tRet (tCall sp_raw_classes [] E (tCons (tVar 0) (tCons (tVar 1) (tCons (tVar 2) tNil))))))
abbrev N__law_asked : List Str := ["alphabet", "words", "storeys", "e"]
def t__law_asked (P : Program) (w : World) (K : PySem.W.Frag) (E : XK) (sp_classes : Sp) (C_StoreyError : Addr) (C_BadAlphabet : Addr) (C_BadWord : Addr) : TS :=
  (sTry K (Value.ref C_StoreyError) 3 (fun a cls d => (tSeq (tIfS (tAnd (tTruG K (tCB (rIsX K a cls d) (tCons (tVar 3) (tCons (tC (V.ref C_BadAlphabet)) tNil)))) (tAnd (tNot (tTruG K (tCB (rIsX K a cls d) (tCons (tVar 3) (tCons (tC (V.ref C_BadWord)) tNil))))) (tTruG K (tCB (rIsX K a cls d) (tCons (tVar 3) (tCons (tC (V.ty "ValueError")) tNil)))))) (tRet (tLst (tCons (tC (V.str (S' [97, 108, 112, 104, 97, 98, 101, 116]))) (tCons (tXg K a cls d "alphabet" (tVar 3)) tNil)))) tNext)
  (tSeq (tIfS (tAnd (tTruG K (tCB (rIsX K a cls d) (tCons (tVar 3) (tCons (tC (V.ref C_BadWord)) tNil)))) (tAnd (tNot (tTruG K (tCB (rIsX K a cls d) (tCons (tVar 3) (tCons (tC (V.ref C_BadAlphabet)) tNil))))) (tTruG K (tCB (rIsX K a cls d) (tCons (tVar 3) (tCons (tC (V.ty "ValueError")) tNil)))))) (tRet (tLst (tCons (tC (V.str (S' [119, 111, 114, 100]))) (tCons (tXg K a cls d "word" (tVar 3)) tNil)))) tNext)
  (tRet (tLst (tCons (tC (V.str (S' [111, 116, 104, 101, 114]))) tNil)))))) (fun W => (tRet (tCallS sp_classes (WE W) (tCons (tVar 0) (tCons (tVar 1) (tCons (tVar 2) tNil)))))))
abbrev N__law_pair_bases : List Str := ["k"]
def t__law_pair_bases (P : Program) (w : World) (K : PySem.W.Frag) (E : XK)  : TS :=
  (tRet (tOp (gAdd K) (tLst (tCons (tC (V.int 6)) (tCons (tC (V.int 4)) (tCons (tC (V.int 4)) (tCons (tC (V.int 4)) (tCons (tC (V.int 4)) (tCons (tC (V.int 3)) tNil))))))) (tLc (iRng1 (tCons (tC (V.int 12)) tNil)) (gName 0) tYes (tC (V.int 24)) [0])))
abbrev N__law_class_rows : List Str := ["alphabet", "words", "storeys", "k", "rows", "turn", "names", "fresh", "w", "counts", "line", "sign", "road", "text", "word"]
def t__law_class_rows (P : Program) (w : World) (K : PySem.W.Frag) (E : XK)  : TS :=
  (tSeq (tAsg (tLc (iAny K (tVar 1)) (gName 14) tYes (tLc (iRng1 (tCons (tOp (gAdd K) (tCB (gLen P w K) (tCons (tVar 14) tNil)) (tC (V.int 1))) tNil)) (gName 3) tYes (tC (V.int 0)) [3]) [14]) (gName 4))
  (tSeq (tFor (iRng1 (tCons (tVar 2) tNil)) (gName 5) (tSeq (tAsg (tDict P w) (gName 6))
  (tSeq (tAsg (tLst tNil) (gName 7))
  (tSeq (tFor (iRng1 (tCons (tCB (gLen P w K) (tCons (tVar 1) tNil)) tNil)) (gName 8) (tSeq (tAsg (tDict P w) (gName 9))
  (tSeq (tAsg (tLst tNil) (gName 10))
  (tSeq (tFor (iRng1 (tCons (tOp (gAdd K) (tCB (gLen P w K) (tCons (tIx P w K (tVar 1) (tVar 8)) tNil)) (tC (V.int 1))) tNil)) (gName 3) (tSeq (tIfS (tTest (tOp gGt (tVar 3) (tC (V.int 0)))) (tSeq (tAsg (tIx P w K (tIx P w K (tVar 1) (tVar 8)) (tOp gMinus (tVar 3) (tC (V.int 1)))) (gName 11))
  (tSeq (tAsg (tTup (tCons (tIx P w K (tIx P w K (tVar 4) (tVar 8)) (tOp gMinus (tVar 3) (tC (V.int 1)))) (tCons (tM1 rSIdx (tVar 0) (tM0 rLow (tVar 11))) tNil))) (gName 12))
  (tSeq (tIfS (tTest (tOp (gNotIn P w K) (tVar 11) (tVar 0))) (tAsg (tTup (tCons (tIx P w K (tIx P w K (tVar 4) (tVar 8)) (tVar 3)) (tCons (tM1 rSIdx (tVar 0) (tM0 rLow (tVar 11))) tNil))) (gName 12)) tNext)
  (sPut P w K (tVar 9) (tVar 12) (tOp gMinus (tOp (gAdd K) (tGet2 P w K (tVar 9) (tVar 12) (tC (V.int 0))) (tC (V.int 1))) (tOp gMul (tC (V.int 2)) (tCB gInt (tCons (tOp (gNotIn P w K) (tVar 11) (tVar 0)) tNil)))))))) tNext)
  (tSeq (tAsg (tCB (gReprW K) (tCons (tLc (iAny K (tCB (gSorted P w K) (tCons (tVar 9) tNil))) (gName 12) (tTest (tOp (gNe K) (tIx P w K (tVar 9) (tVar 12)) (tC (V.int 0)))) (tTup (tCons (tVar 12) (tCons (tIx P w K (tVar 9) (tVar 12)) tNil))) [12]) tNil)) (gName 13))
  (tSeq (tIfS (tTest (tOp (gNotIn P w K) (tVar 13) (tVar 6))) (sPut P w K (tVar 6) (tVar 13) (tCB (gLen P w K) (tCons (tVar 6) tNil))) tNext)
  (tDrop (tBM K "list" rAppend (tVar 10) (tCons (tIx P w K (tVar 6) (tVar 13)) tNil)))))))
  (tDrop (tBM K "list" rAppend (tVar 7) (tCons (tVar 10) tNil)))))))
  (tAsg (tLc (iAny K (tVar 7)) (gName 10) tYes (tCB (gList K) (tCons (tVar 10) tNil)) [10]) (gName 4))))))
  (tRet (tVar 4))))
abbrev N__law_eight : List Str := ["script", "at", "alphabet", "depth", "words", "k", "row", "word", "letters"]
def t__law_eight (P : Program) (w : World) (K : PySem.W.Frag) (E : XK) (sp__law_word : Sp) (sp__law_digits : Sp) (sp__law_cell : Sp) : TS :=
  (tSeq (tAsg (tLst tNil) (gName 4))
  (tSeq (tFor (iRng1 (tCons (tC (V.int 8)) tNil)) (gName 5) (tSeq (tAsg (tCall sp__law_digits [] E (tCons (tCall sp__law_cell [] E (tCons (tVar 0) (tCons (tOp (gAdd K) (tVar 1) (tVar 5)) tNil))) (tCons (tLst (tCons (tC (V.int 2)) (tCons (tC (V.int 24)) (tCons (tC (V.int 24)) tNil)))) tNil))) (gName 6))
  (tSeq (tAsg (tCall sp__law_word [] E (tCons (tVar 2) (tCons (tSl (gSl K) (tVar 6) (tPart (tC (V.int 1))) tNoPart) (tCons (tOp (gAdd K) (tC (V.int 1)) (tOp gMul (tIx P w K (tVar 6) (tC (V.int 0))) (tCB gInt (tCons (tOp gLt (tVar 3) (tC (V.int 3))) tNil)))) tNil)))) (gName 7))
  (tSeq (tIfS (tAnd (tTest (tOp (gEq K) (tCB (gLen P w K) (tCons (tVar 7) tNil)) (tC (V.int 1)))) (tTest (tOp gGt (tCB (gLen P w K) (tCons (tVar 2) tNil)) (tC (V.int 1))))) (tSeq (tAsg (tIx P w K (tLst (tCons (tSl (gSl K) (tVar 2) tNoPart (tPart (tC (V.int 1)))) (tCons (tSl (gSl K) (tVar 2) (tPart (tC (V.int 1))) tNoPart) tNil))) (tOp gMod (tVar 5) (tC (V.int 2)))) (gName 8))
  (tAsg (tCall sp__law_word [] E (tCons (tVar 8) (tCons (tSl (gSl K) (tVar 6) (tPart (tC (V.int 1))) tNoPart) (tCons (tC (V.int 1)) tNil)))) (gName 7))) tNext)
  (tDrop (tBM K "list" rAppend (tVar 4) (tCons (tVar 7) tNil)))))))
  (tRet (tVar 4))))
abbrev N_struck : List Str := ["word", "signs", "sign"]
def t_struck (P : Program) (w : World) (K : PySem.W.Frag) (E : XK) (sp_swapped : Sp) : TS :=
  (tSeq (tAsg (tLst tNil) (gName 1))
  (tSeq (tFor (iAny K (tVar 0)) (gName 2) (tIfS (tAnd (tTruG K (tVar 1)) (tTest (tOp (gEq K) (tIx P w K (tVar 1) (tUn (rU fun i => .int (-i)) (tC (V.int 1)))) (tCall sp_swapped [] E (tCons (tVar 2) tNil))))) (tDrop (tBM0 K "list" rPop (tVar 1))) (tDrop (tBM K "list" rAppend (tVar 1) (tCons (tVar 2) tNil)))))
  (tRet (tM1 (rJoin K) (tC (V.str (S' []))) (tVar 1)))))
abbrev N_undone : List Str := ["word", "sign"]
def t_undone (P : Program) (w : World) (K : PySem.W.Frag) (E : XK) (sp_swapped : Sp) : TS :=
  (tRet (tM1 (rJoin K) (tC (V.str (S' []))) (tLc (iAny K (tRevG K (tVar 0))) (gName 1) tYes (tCall sp_swapped [] E (tCons (tVar 1) tNil)) [1])))
abbrev N_detour : List Str := ["one", "two"]
def t_detour (P : Program) (w : World) (K : PySem.W.Frag) (E : XK) (sp_struck : Sp) (sp_undone : Sp) : TS :=
  (tRet (tCall sp_struck [] E (tCons (tOp (gAdd K) (tOp (gAdd K) (tOp (gAdd K) (tVar 0) (tVar 1)) (tCall sp_undone [] E (tCons (tVar 0) tNil))) (tCall sp_undone [] E (tCons (tVar 1) tNil))) tNil)))
abbrev N_deep_detour : List Str := ["words", "level", "word", "index"]
def t_deep_detour (P : Program) (w : World) (K : PySem.W.Frag) (E : XK) (sp_detour : Sp) (sp_struck : Sp) (C_BadCount : Addr) : TS :=
  (tSeq (tIfS (tTest (tOp (gNotIn P w K) (tCB (gLen P w K) (tCons (tVar 0) tNil)) (tTup (tCons (tC (V.int 1)) (tCons (tC (V.int 2)) (tCons (tC (V.int 4)) (tCons (tC (V.int 8)) tNil))))))) (sRai C_BadCount "length" E (tCons (tCB (gLen P w K) (tCons (tVar 0) tNil)) tNil)) tNext)
  (tSeq (tAsg (tLc (iAny K (tVar 0)) (gName 2) tYes (tCall sp_struck [] E (tCons (tVar 2) tNil)) [2]) (gName 1))
  (tSeq (tWhile (tTest (tOp gGt (tCB (gLen P w K) (tCons (tVar 1) tNil)) (tC (V.int 1)))) (tAsg (tLc (iRng3 (tCons (tC (V.int 0)) (tCons (tCB (gLen P w K) (tCons (tVar 1) tNil)) (tCons (tC (V.int 2)) tNil)))) (gName 3) tYes (tCall sp_detour [] E (tCons (tIx P w K (tVar 1) (tVar 3)) (tCons (tIx P w K (tVar 1) (tOp (gAdd K) (tVar 3) (tC (V.int 1)))) tNil))) [3]) (gName 1)))
  (tRet (tIx P w K (tVar 1) (tC (V.int 0)))))))
abbrev N_are_one : List Str := ["alphabet", "one", "two", "storeys", "rows"]
def t_are_one (P : Program) (w : World) (K : PySem.W.Frag) (E : XK) (sp_raw_classes : Sp) : TS :=
  (tSeq (tAsg (tCall sp_raw_classes [] E (tCons (tVar 0) (tCons (tTup (tCons (tVar 1) (tCons (tVar 2) tNil))) (tCons (tVar 3) tNil)))) (gName 4))
  (tRet (tOp (gEq K) (tIx P w K (tIx P w K (tVar 4) (tC (V.int 0))) (tUn (rU fun i => .int (-i)) (tC (V.int 1)))) (tIx P w K (tIx P w K (tVar 4) (tC (V.int 1))) (tUn (rU fun i => .int (-i)) (tC (V.int 1)))))))
abbrev N_one_at : List Str := ["alphabet", "one", "two", "storeys"]
def t_one_at (P : Program) (w : World) (K : PySem.W.Frag) (E : XK) (sp_are_one : Sp) (sp_check_words : Sp) : TS :=
  (tSeq (tDrop (tCall sp_check_words [] E (tCons (tVar 0) (tCons (tTup (tCons (tVar 1) (tCons (tVar 2) tNil))) tNil))))
  (tRet (tCall sp_are_one [] E (tCons (tVar 0) (tCons (tVar 1) (tCons (tVar 2) (tCons (tVar 3) tNil)))))))
abbrev N__law_one : List Str := ["alphabet", "one", "two", "storeys", "rows"]
def t__law_one (P : Program) (w : World) (K : PySem.W.Frag) (E : XK) (sp__law_class_rows : Sp) : TS :=
  (tSeq (tAsg (tCall sp__law_class_rows [] E (tCons (tVar 0) (tCons (tLst (tCons (tVar 1) (tCons (tVar 2) tNil))) (tCons (tVar 3) tNil)))) (gName 4))
  (tRet (tOp (gEq K) (tIx P w K (tIx P w K (tVar 4) (tC (V.int 0))) (tCB (gLen P w K) (tCons (tVar 1) tNil))) (tIx P w K (tIx P w K (tVar 4) (tC (V.int 1))) (tCB (gLen P w K) (tCons (tVar 2) tNil))))))
abbrev N__law_deep : List Str := ["words", "level", "turn", "pairs", "word", "k", "pair"]
def t__law_deep (P : Program) (w : World) (K : PySem.W.Frag) (E : XK) (sp__law_struck : Sp) (sp__law_undone : Sp) : TS :=
  (tSeq (tAsg (tLc (iAny K (tVar 0)) (gName 4) tYes (tCall sp__law_struck [] E (tCons (tVar 4) tNil)) [4]) (gName 1))
  (tSeq (tFor (iRng1 (tCons (tC (V.int 3)) tNil)) (gName 2) (tSeq (tIfS (tTest (tOp (gEq K) (tCB (gLen P w K) (tCons (tVar 1) tNil)) (tC (V.int 1)))) tBreak tNext)
  (tSeq (tAsg (tLc (iRng1 (tCons (tOp gFdiv (tCB (gLen P w K) (tCons (tVar 1) tNil)) (tC (V.int 2))) tNil)) (gName 5) tYes (tTup (tCons (tIx P w K (tVar 1) (tOp gMul (tC (V.int 2)) (tVar 5))) (tCons (tIx P w K (tVar 1) (tOp (gAdd K) (tOp gMul (tC (V.int 2)) (tVar 5)) (tC (V.int 1)))) tNil))) [5]) (gName 3))
  (tAsg (tLc (iAny K (tVar 3)) (gName 6) tYes (tCall sp__law_struck [] E (tCons (tOp (gAdd K) (tOp (gAdd K) (tOp (gAdd K) (tIx P w K (tVar 6) (tC (V.int 0))) (tIx P w K (tVar 6) (tC (V.int 1)))) (tCall sp__law_undone [] E (tCons (tIx P w K (tVar 6) (tC (V.int 0))) tNil))) (tCall sp__law_undone [] E (tCons (tIx P w K (tVar 6) (tC (V.int 1))) tNil))) tNil)) [6]) (gName 1)))))
  (tRet (tIx P w K (tVar 1) (tC (V.int 0))))))
abbrev N_law_K57 : List Str := ["script", "alphabet", "shape", "depth", "words", "many", "one", "two", "by", "first", "second", "k"]
def t_law_K57 (P : Program) (w : World) (K : PySem.W.Frag) (E : XK) (sp_one_at : Sp) (sp__law_undone : Sp) (sp__law_one : Sp) (sp__law_word : Sp) (sp__law_digits : Sp) (sp__law_cell : Sp) (sp__law_deep : Sp) (sp_deep_detour : Sp) (sp__law_eight : Sp) (sp__law_alphabet : Sp) : TS :=
  (tSeq (tAsg (tCall sp__law_alphabet [] E (tCons (tCall sp__law_digits [] E (tCons (tCall sp__law_cell [] E (tCons (tVar 0) (tCons (tC (V.int 0)) tNil))) (tCons (tLst (tCons (tC (V.int 8)) (tCons (tC (V.int 9)) (tCons (tC (V.int 8)) (tCons (tC (V.int 7)) tNil))))) tNil))) tNil)) (gName 1))
  (tSeq (tIfS (tAnd (tTest (tOp (gEq K) (tCB (gLen P w K) (tCons (tVar 1) tNil)) (tC (V.int 3)))) (tTest (tOp (gEq K) (tOp gMod (tCB gInt (tCons (tCall sp__law_cell [] E (tCons (tVar 0) (tCons (tC (V.int 0)) tNil))) tNil)) (tC (V.int 2))) (tC (V.int 0))))) (tAsg (tOp (gAdd K) (tVar 1) (tC (V.str (S' [122])))) (gName 1)) tNext)
  (tSeq (tAsg (tCall sp__law_digits [] E (tCons (tCall sp__law_cell [] E (tCons (tVar 0) (tCons (tC (V.int 1)) tNil))) (tCons (tLst (tCons (tC (V.int 12)) (tCons (tC (V.int 4)) (tCons (tC (V.int 4)) tNil)))) tNil))) (gName 2))
  (tSeq (tAsg (tIx P w K (tLst (tCons (tC (V.int 1)) (tCons (tC (V.int 1)) (tCons (tC (V.int 1)) (tCons (tC (V.int 1)) (tCons (tC (V.int 2)) (tCons (tC (V.int 2)) (tCons (tC (V.int 2)) (tCons (tC (V.int 2)) (tCons (tC (V.int 2)) (tCons (tC (V.int 2)) (tCons (tC (V.int 3)) (tCons (tC (V.int 3)) tNil))))))))))))) (tIx P w K (tVar 2) (tC (V.int 0)))) (gName 3))
  (tSeq (tAsg (tCall sp__law_eight [] E (tCons (tVar 0) (tCons (tC (V.int 2)) (tCons (tVar 1) (tCons (tVar 3) tNil))))) (gName 4))
  (tSeq (tAsg (tIx P w K (tLst (tCons (tC (V.int 2)) (tCons (tC (V.int 4)) (tCons (tC (V.int 8)) tNil)))) (tOp gMinus (tVar 3) (tC (V.int 1)))) (gName 5))
  (tSeq (tAsg (tCall sp_deep_detour [] E0 (tCons (tSl (gSl K) (tVar 4) tNoPart (tPart (tVar 5))) tNil)) (gName 6))
  (tSeq (tAsg (tCall sp_deep_detour [] E0 (tCons (tSl (gSl K) (tRevG K (tVar 4)) tNoPart (tPart (tVar 5))) tNil)) (gName 7))
  (tSeq (tIfS (tOr (tTest (tOp (gNe K) (tCB (gReprW K) (tCons (tVar 6) tNil)) (tCB (gReprW K) (tCons (tCall sp__law_deep [] E (tCons (tSl (gSl K) (tVar 4) tNoPart (tPart (tVar 5))) tNil)) tNil)))) (tTest (tOp (gNe K) (tCB (gReprW K) (tCons (tVar 7) tNil)) (tCB (gReprW K) (tCons (tCall sp__law_deep [] E (tCons (tSl (gSl K) (tRevG K (tVar 4)) tNoPart (tPart (tVar 5))) tNil)) tNil))))) (tRet (tC (V.bl false))) tNext)
  (tSeq (tAsg (tCall sp__law_word [] E (tCons (tVar 1) (tCons (tCall sp__law_digits [] E (tCons (tCall sp__law_cell [] E (tCons (tVar 0) (tCons (tC (V.int 10)) tNil))) (tCons (tLc (iRng1 (tCons (tC (V.int 3)) tNil)) (gName 11) tYes (tC (V.int 24)) [11]) tNil))) (tCons (tIx P w K (tVar 2) (tC (V.int 1))) tNil)))) (gName 8))
  (tSeq (tIfS (tOr (tTest (tOp gIsNotW (tCall sp_one_at [] E0 (tCons (tVar 1) (tCons (tVar 6) (tCons (tC (V.str (S' []))) (tCons (tVar 3) tNil))))) (tC (V.bl true)))) (tTest (tOp gIsNotW (tCall sp_one_at [] E0 (tCons (tVar 1) (tCons (tOp (gAdd K) (tOp (gAdd K) (tVar 8) (tVar 6)) (tCall sp__law_undone [] E (tCons (tVar 8) tNil))) (tCons (tC (V.str (S' []))) (tCons (tVar 3) tNil))))) (tC (V.bl true))))) (tRet (tC (V.bl false))) tNext)
  (tSeq (tIfS (tTest (tOp (gEq K) (tVar 3) (tC (V.int 3)))) (tRet (tOp (gEq K) (tCB (gReprW K) (tCons (tCall sp_one_at [] E0 (tCons (tVar 1) (tCons (tVar 6) (tCons (tC (V.str (S' []))) (tCons (tC (V.int 4)) tNil))))) tNil)) (tCB (gReprW K) (tCons (tCall sp__law_one [] E (tCons (tVar 1) (tCons (tVar 6) (tCons (tC (V.str (S' []))) (tCons (tC (V.int 4)) tNil))))) tNil)))) tNext)
  (tSeq (tIfS (tOr (tTest (tOp gIsNotW (tCall sp_one_at [] E0 (tCons (tVar 1) (tCons (tOp (gAdd K) (tVar 8) (tVar 7)) (tCons (tVar 8) (tCons (tVar 3) tNil))))) (tC (V.bl true)))) (tTest (tOp gIsNotW (tCall sp_one_at [] E0 (tCons (tVar 1) (tCons (tOp (gAdd K) (tVar 6) (tVar 7)) (tCons (tVar 7) (tCons (tVar 3) tNil))))) (tC (V.bl true))))) (tRet (tC (V.bl false))) tNext)
  (tSeq (tIfS (tTest (tOp (gNe K) (tCB (gReprW K) (tCons (tCall sp_one_at [] E0 (tCons (tVar 1) (tCons (tVar 6) (tCons (tC (V.str (S' []))) (tCons (tOp (gAdd K) (tVar 3) (tC (V.int 1))) tNil))))) tNil)) (tCB (gReprW K) (tCons (tCall sp__law_one [] E (tCons (tVar 1) (tCons (tVar 6) (tCons (tC (V.str (S' []))) (tCons (tOp (gAdd K) (tVar 3) (tC (V.int 1))) tNil))))) tNil)))) (tRet (tC (V.bl false))) tNext)
  (tSeq (tIfS (tTest (tOp gIsNotW (tCall sp_one_at [] E0 (tCons (tVar 1) (tCons (tOp (gAdd K) (tVar 6) (tVar 7)) (tCons (tOp (gAdd K) (tVar 7) (tVar 6)) (tCons (tOp (gAdd K) (tVar 3) (tC (V.int 1))) tNil))))) (tC (V.bl true)))) (tRet (tC (V.bl false))) tNext)
  (tSeq (tAsg (tOp (gAdd K) (tOp (gAdd K) (tOp (gAdd K) (tVar 8) (tVar 6)) (tCall sp__law_undone [] E (tCons (tVar 8) tNil))) (tVar 7)) (gName 9))
  (tSeq (tAsg (tOp (gAdd K) (tOp (gAdd K) (tOp (gAdd K) (tVar 7) (tVar 8)) (tVar 6)) (tCall sp__law_undone [] E (tCons (tVar 8) tNil))) (gName 10))
  (tRet (tAndV (tOp gIsW (tCall sp_one_at [] E0 (tCons (tVar 1) (tCons (tVar 9) (tCons (tVar 10) (tCons (tOp (gAdd K) (tVar 3) (tC (V.int 1))) tNil))))) (tC (V.bl true))) (tOp gIsW (tCall sp_one_at [] E0 (tCons (tVar 1) (tCons (tOp (gAdd K) (tVar 6) (tVar 8)) (tCons (tOp (gAdd K) (tVar 8) (tVar 6)) (tCons (tVar 3) tNil))))) (tC (V.bl true))))))))))))))))))))))
end Tw

/-! Tac: tactics that evaluate readings by data. -/
namespace Sym
open PySem PySem.Spec PyProof.Rows L2 Evl
section
variable {P : Program} {w : World} {K : PySem.W.Frag} {E : XK} {ds ds' : Env'} {te ta tb tc td tx to : TE} {x y z d : D} {t u : TT} {tr : TA} {xs ys : List D} {b c : Bool} {tu tw tz : TS} {Po : Post} {g : TG} {ti : TI} {i j : Int} {l m : List Nat}
theorem o_ixSs {k : Nat} (hl : l.length ≤ 16777216) (h : atI l i = some k) : Op2 K (rIx K) (.str (S' l)) (.int i) (.str (S' [k])) := o_ixS (a := S' l) (by rw [s_len]; exact hl) h
theorem S'_inj {a b : List Nat} : S' a = S' b ↔ a = b := ⟨fun h => SX.S_inj h, fun h => by rw [h]⟩
theorem o_eqSs : Op2 K (gEq K) (.str (S' l)) (.str (S' m)) (.bl (decide (l = m))) := by
  have e : decide (l = m) = decide (S' l = S' m) := by simp only [S'_inj]
  rw [e]
  exact o_eqS
theorem o_neSs : Op2 K (gNe K) (.str (S' l)) (.str (S' m)) (.bl (!decide (l = m))) := by
  have e : decide (l = m) = decide (S' l = S' m) := by simp only [S'_inj]
  rw [e]
  exact o_neS
theorem o_ltSs : Op2 K gLt (.str (S' l)) (.str (S' m)) (.bl (decide (l < m))) := o_ltS
theorem o_inSs {k : Nat} : Op2 K (gIn P w K) (.str (S' [k])) (.str (S' l)) (.bl (decide (k ∈ l))) := o_inSign
theorem o_notInSs {k : Nat} : Op2 K (gNotIn P w K) (.str (S' [k])) (.str (S' l)) (.bl (!decide (k ∈ l))) := o_notInSign
theorem ev_sidxS {s : Nat} (ho : Ev K to ds (.str (S' l))) (h : Ev K te ds (.str (S' [s]))) (hm : s ∈ l) : Ev K (tM1 rSIdx to te) ds (.int (ixOf l s : Nat)) := ev_sidx ho h hm
theorem ei_strS (h : Ev K te ds (.str (S' l))) : EvI K (iAny K te) ds (l.map fun c => .str (S' [c])) := ei_str h
theorem atI_map {α : Type} {f : α → D} {l : List α} {i : Int} {a : α} (h : atI l i = some a) : atI (l.map f) i = some (f a) := by
  unfold atI at h ⊢
  rw [List.length_map]
  cases e : ixN l.length i with
  | none => rw [e] at h; cases h
  | some n =>
    rw [e] at h
    show (l.map f)[n]? = some (f a)
    have h' : l[n]? = some a := h
    rw [List.getElem?_map, h'] <;> rfl
end
end Sym
/-- a side condition -/
local macro_rules | `(tactic| walk_at "sym sd1") => `(tactic| first | assumption | omega | decide | (simp; done) | (simp; omega))
/-- one step of an evaluation -/
local macro_rules | `(tactic| walk_at "sym ev1") => `(tactic| first
  | exact Sym.ev_var rfl | exact Sym.ev_int | exact Sym.ev_bl | exact Sym.ev_non | exact Sym.ev_str
  | exact Sym.ea_nil | refine' Sym.ea_cons ?_ ?_
  | exact Sym.eo_none | refine' Sym.eo_some ?_
  | refine' Sym.ev_tup ?_ ?_ | refine' Sym.ev_lst ?_ ?_
  | refine' Sym.ev_inN rfl ?_ ?_ | refine' Sym.ev_notInN rfl ?_ ?_ | refine' Sym.ev_inK rfl ?_ | refine' Sym.ev_notInK rfl ?_
  | refine' Sym.ev_get2N rfl ?_ ?_ ?_ | refine' Sym.ev_get2K rfl ?_ ?_
  | refine' Sym.ev_getN rfl ?_ ?_ ?_ | refine' Sym.ev_getK rfl ?_ ?_
  | refine' Sym.ev_ixM rfl ?_ ?_ | refine' Sym.ev_ix ?_ ?_ ?_
  | refine' Sym.ev_sl ?_ ?_ ?_ ?_
  | exact Sym.ev_lenN rfl | exact Sym.ev_lenK rfl | exact Sym.ev_lenL rfl
  | refine' Sym.ev_neg ?_
  | refine' Sym.ev_sidxS ?_ ?_ ?_
  | refine' Sym.ev_op2 ?_ ?_ ?_
  | refine' Sym.ev_cb ?_ ?_
  | refine' Sym.ev_notV ?_
  | refine' Sym.et_test ?_ | refine' Sym.et_not ?_ | refine' Sym.et_B ?_
  | refine' Sym.o_addI | refine' Sym.o_sub | refine' Sym.o_ltI | refine' Sym.o_le | refine' Sym.o_gt | refine' Sym.o_ge | refine' Sym.o_eqI | refine' Sym.o_neI | refine' Sym.o_eqSs | refine' Sym.o_neSs | refine' Sym.o_ltSs | refine' Sym.o_inSs | refine' Sym.o_notInSs | refine' Sym.o_isN
  | refine' Sym.o_addSs ?_ | refine' Sym.o_addL ?_ | refine' Sym.o_addT ?_ | refine' Sym.o_mul ?_ | refine' Sym.o_mod ?_ | refine' Sym.o_fdiv ?_ | refine' Sym.o_pow ?_
  | refine' Sym.o_ixL ?_ | refine' Sym.o_ixT ?_ | refine' Sym.o_ixSs ?_ ?_
  | refine' Sym.o_slL | refine' Sym.o_slT | refine' Sym.o_slSs ?_
  | refine' Sym.c_int | refine' Sym.c_intB | refine' Sym.c_lenL | refine' Sym.c_lenT | refine' Sym.c_lenSs ?_ | refine' Sym.c_tupL | refine' Sym.c_tupT | refine' Sym.c_lstL | refine' Sym.c_lstT)
local macro_rules | `(tactic| walk_at "sym ev") => `(tactic| (repeat' (walk_at "sym ev1")) <;> (try (walk_at "sym sd1")))
local macro_rules | `(tactic| walk_at "sym leT") => `(tactic| repeat (first | exact True.intro | refine And.intro rfl ?_))

/-! ComA: what the law's own drawing defs give. -/
namespace Tw
open PySem PySem.Spec PyProof.Rows L2 Sym
section
variable {P : Program} {w : World} {K : PySem.W.Frag}
theorem log2_lt {n k : Nat} (h : n < 2 ^ k) : n.log2 < k ∨ n.log2 = 0 := by
  by_cases h0 : n = 0
  · subst h0
    exact .inr (by decide)
  · exact .inl ((Nat.log2_lt h0).mpr h)
theorem cmul_of {i j : Int} {a b : Nat} (h1 : i.natAbs < 2 ^ a) (h2 : j.natAbs < 2 ^ b) (h : a + b ≤ 900000) : CMulW i j := by
  unfold CMulW
  rcases log2_lt h1 with h1 | h1 <;> rcases log2_lt h2 with h2 | h2 <;> omega
theorem cdiv_of {i j : Int} {b : Nat} (h0 : 0 < j) (h2 : j.natAbs < 2 ^ b) (h : b ≤ 8999) : CDivW i j := by
  refine ⟨h0, ?_⟩
  rcases log2_lt h2 with h2 | h2 <;> omega
/-! ### _law_cell -/
def seedF (ns : List Int) : Int := ns.foldl (fun s c => (s * 31 + c % 1000003) % 1000003) 17
theorem seedF_snoc (ns : List Int) (c : Int) : seedF (ns ++ [c]) = (seedF ns * 31 + c % 1000003) % 1000003 := by
  unfold seedF
  rw [List.foldl_append] <;> rfl
theorem seedF_go : ∀ (ns : List Int) (s : Int), 0 ≤ s ∧ s < 1000003 → 0 ≤ ns.foldl (fun s c => (s * 31 + c % 1000003) % 1000003) s ∧ ns.foldl (fun s c => (s * 31 + c % 1000003) % 1000003) s < 1000003
  | [], s, h => h
  | c :: r, s, h => seedF_go r _ (by constructor <;> dsimp only <;> omega)
theorem seedF_lt (ns : List Int) : 0 ≤ seedF ns ∧ seedF ns < 1000003 := seedF_go ns 17 (by omega)
def cellF (ns : List Int) (k : Nat) : Int := match ns[k]? with
  | some c => c
  | none => (seedF ns + 7) * ((k : Int) + 3) * 69621 % 2147483647
def en_cell (a : List Int × Nat) : List D := [dInts a.1, .int (a.2 : Nat)]
def pr_cell (a : List Int × Nat) : Prop := a.1.length ≤ 1000 ∧ a.2 ≤ 100000
abbrev sp_cell (K : PySem.W.Frag) : Sp := spF K en_cell pr_cell fun a => .ret (.int (cellF a.1 a.2))
theorem run_cell (a : List Int × Nat) (E : XK) (h : pr_cell a) : Run K E (t__law_cell P w K E) (startE N__law_cell (en_cell a)) (Ends' (.ret (.int (cellF a.1 a.2)))) := by
  obtain ⟨ns, k⟩ := a
  obtain ⟨h1, h2⟩ := h
  dsimp only at h1 h2
  unfold t__law_cell
  refine q_when (b := decide ((k : Int) < (ns.length : Int))) ?_ (fun hb => ?_) fun hb => ?_
  · have e : (ns.length : Int) = ((ns.map D.int).length : Int) := by rw [List.length_map]
    rw [e]
    walk_at "sym ev"
  · have hk : k < ns.length := by have := of_decide_eq_true hb; omega
    refine run_ret (d := .int ns[k]) ?_ ?_
    · walk_at "sym ev"
      exact atI_map (atI_of (List.getElem?_eq_getElem hk))
    · show Out.ret _ = Out.ret _
      unfold cellF
      rw [List.getElem?_eq_getElem hk]
  · have hk : ¬ k < ns.length := fun z => (of_decide_eq_false hb) (by omega)
    refine q_asg (by walk_at "sym ev") ?_
    refine run_seq ?_
    refine run_for (enc := D.int) (as := ns) (fun pre => [some (.im (dInts ns)), some (.im (.int (k : Nat))), some (.im (.int (seedF pre))), none]) (fun _ => True) (ei_list (by walk_at "sym ev")) (by walk_at "sym leT") trivial (fun pre c post hs _ => ?_) (fun _ => ?_)
    · refine ⟨_, eg_name, ?_⟩
      have hs := seedF_lt pre
      refine run_asg (d := .int ((seedF pre * 31 + c % 1000003) % 1000003)) ?_ ?_
      · walk_at "sym ev"
        exact cmul_of (a := 20) (b := 5) (by omega) (by omega) (by omega)
      · rw [seedF_snoc]
        exact ⟨by walk_at "sym leT", trivial⟩
    · have hb := seedF_lt ns
      have e2 : ((seedF ns + 7) * ((k : Int) + 3)).natAbs < 2 ^ 50 := by
        have m1 : (seedF ns + 7) * ((k : Int) + 3) ≤ 1000010 * 100003 := Int.mul_le_mul (by omega) (by omega) (by omega) (by omega)
        have m2 : 0 ≤ (seedF ns + 7) * ((k : Int) + 3) := Int.mul_nonneg (by omega) (by omega)
        omega
      refine run_ret (d := .int ((seedF ns + 7) * ((k : Int) + 3) * 69621 % 2147483647)) ?_ ?_
      · walk_at "sym ev"
        · exact cmul_of (a := 21) (b := 20) (by omega) (by omega) (by omega)
        · exact cmul_of (a := 50) (b := 17) e2 (by omega) (by omega)
      · show Out.ret _ = Out.ret _
        unfold cellF
        rw [List.getElem?_eq_none (by dsimp only; omega)]

/-! ### ranges -/
theorem range_split : ∀ {n : Nat} {pre post : List Nat} {i : Nat}, List.range n = pre ++ i :: post → pre = List.range i ∧ i < n := fun {n pre post i} h => by
  have hl : pre.length < n := by
    have e := congrArg List.length h
    simp at e
    omega
  have hi : i = pre.length := by
    have e := congrArg (fun l => l[pre.length]?) h
    simp only [List.getElem?_append_right (Nat.le_refl _), Nat.sub_self, List.getElem?_cons_zero] at e
    rw [List.getElem?_eq_getElem (by simpa using hl), List.getElem_range] at e
    exact (Option.some.inj e).symm
  refine ⟨?_, by omega⟩
  have e := congrArg (fun l => l.take pre.length) h
  simp only [List.take_append_of_le_length (Nat.le_refl _), List.take_length] at e
  rw [List.take_range, Nat.min_eq_left (by omega)] at e
  rw [← e, hi]
/-! ### _law_digits -/
def divF : Int → List Int → List Int
  | _, [] => []
  | n, b :: r => n % b :: divF (n / b) r
def numF (n : Int) (bs : List Int) : Int := bs.foldl (fun n b => n / b) n
theorem divF_snoc : ∀ (n : Int) (pre : List Int) (b : Int), divF n (pre ++ [b]) = divF n pre ++ [numF n pre % b]
  | n, [], b => rfl
  | n, c :: r, b => by
    show n % c :: divF (n / c) (r ++ [b]) = n % c :: (divF (n / c) r ++ [numF (n / c) r % b])
    rw [divF_snoc]
theorem numF_snoc (n : Int) (pre : List Int) (b : Int) : numF n (pre ++ [b]) = numF n pre / b := by
  unfold numF
  rw [List.foldl_append] <;> rfl
theorem divF_len : ∀ (n : Int) (bs : List Int), (divF n bs).length = bs.length
  | _, [] => rfl
  | n, b :: r => congrArg (· + 1) (divF_len (n / b) r)
theorem divF_get : ∀ (n : Int) (bs : List Int) (i : Nat) (b : Int), bs[i]? = some b → 0 < b → ∃ d, (divF n bs)[i]? = some d ∧ 0 ≤ d ∧ d < b
  | n, c :: r, 0, b, h, hb => by
    have e : c = b := Option.some.inj h
    subst e
    exact ⟨n % c, rfl, Int.emod_nonneg _ (by omega), Int.emod_lt_of_pos _ hb⟩
  | n, c :: r, i + 1, b, h, hb => divF_get (n / c) r i b h hb
def sdF (n : Int) : Nat → Int
  | 0 => n % 2147483629
  | k + 1 => (sdF n k * 48271 + 974711 * (k : Int) + 12345) % 2147483647
theorem sdF_lt (n : Int) : ∀ k, 0 ≤ sdF n k ∧ sdF n k < 2147483647
  | 0 => by show 0 ≤ n % 2147483629 ∧ n % 2147483629 < _; omega
  | k + 1 => by show 0 ≤ (sdF n k * 48271 + 974711 * (k : Int) + 12345) % 2147483647 ∧ (sdF n k * 48271 + 974711 * (k : Int) + 12345) % 2147483647 < _; omega
def twF (s : Int) : Int := s * (s / 65537 + 3) % 2147483629
def mixF (n : Int) (bs : List Int) (k : Nat) : List Int := (List.range k).map fun j => twF (sdF n (j + 1)) / 19 % bs.getD j 1
theorem mixF_snoc (n : Int) (bs : List Int) (k : Nat) : mixF n bs (k + 1) = mixF n bs k ++ [twF (sdF n (k + 1)) / 19 % bs.getD k 1] := by
  unfold mixF
  rw [List.range_succ, List.map_append] <;> rfl
def digF (n : Int) (bs : List Int) : List Int := if 10 ^ 18 ≤ n then divF (n - 10 ^ 18) bs else mixF n bs bs.length
theorem digF_len (n : Int) (bs : List Int) : (digF n bs).length = bs.length := by
  unfold digF
  split
  · exact divF_len _ _
  · unfold mixF
    simp
theorem digF_get (n : Int) (bs : List Int) (i : Nat) (b : Int) (h : bs[i]? = some b) (hb : 0 < b) : ∃ d, (digF n bs)[i]? = some d ∧ 0 ≤ d ∧ d < b := by
  unfold digF
  split
  · exact divF_get _ _ _ _ h hb
  · have hl : i < bs.length := (List.getElem?_eq_some_iff.mp h).1
    refine ⟨_, by unfold mixF; rw [List.getElem?_map, List.getElem?_range hl] <;> rfl, ?_⟩
    dsimp only
    rw [List.getD_eq_getElem?_getD, h]
    exact ⟨Int.emod_nonneg _ (by show b ≠ 0; omega), Int.emod_lt_of_pos _ hb⟩
def en_digits (a : Int × List Int) : List D := [.int a.1, dInts a.2]
def pr_digits (a : Int × List Int) : Prop := a.2.length ≤ 1000 ∧ ∀ b ∈ a.2, 0 < b ∧ b < 2 ^ 31
def fn_digits (a : Int × List Int) : Out := .ret (dInts (digF a.1 a.2))
abbrev sp_digits (K : PySem.W.Frag) : Sp := spF K en_digits pr_digits fn_digits
theorem run_digits (a : Int × List Int) (E : XK) (h : pr_digits a) : Run K E (t__law_digits P w K E) (startE N__law_digits (en_digits a)) (Ends' (fn_digits a)) := by
  obtain ⟨n, bs⟩ := a
  obtain ⟨h1, h2⟩ := h
  dsimp only at h1 h2
  unfold t__law_digits
  refine q_newL ea_nil (by decide) ?_
  refine q_asg (by walk_at "sym ev") ?_
  refine q_when (b := decide ((10 : Int) ^ 18 ≤ n)) (by walk_at "sym ev"; exact ⟨by omega, by omega, by decide⟩) (fun hb => ?_) fun hb => ?_
  · have hn : (10 : Int) ^ 18 ≤ n := of_decide_eq_true hb
    refine q_asg (d := .int (n - 10 ^ 18)) (by walk_at "sym ev"; exact ⟨by omega, by omega, by decide⟩) ?_
    refine run_seq ?_
    refine run_for (enc := D.int) (as := bs) (fun pre => [none, some (.im (dInts bs)), some (.ml ((divF (n - 10 ^ 18) pre).map D.int)), some (.im (.int (numF (n - 10 ^ 18) pre))), none, none, none, none]) (fun _ => True) (ei_list (by walk_at "sym ev")) (by walk_at "sym leT") trivial (fun pre b post hs _ => ?_) (fun _ => ?_)
    · have hm := h2 b (by rw [hs]; simp)
      refine ⟨_, eg_name, ?_⟩
      refine run_seq ?_
      refine run_append (i := 2) rfl (d := .int (numF (n - 10 ^ 18) pre % b)) (by walk_at "sym ev") ?_ ?_
      · have e := congrArg List.length hs
        rw [List.length_append] at e
        rw [List.length_map, divF_len]
        omega
      · refine run_asg (d := .int (numF (n - 10 ^ 18) pre / b)) (by walk_at "sym ev"; exact cdiv_of (b := 31) (by omega) (by omega) (by omega)) ?_
        rw [numF_snoc, divF_snoc, List.map_append]
        exact ⟨by walk_at "sym leT", trivial⟩
    · refine run_retL (i := 2) rfl ?_
      show fn_digits (n, bs) = Out.ret _
      unfold fn_digits digF
      rw [if_pos hn]
  · have hn : ¬ (10 : Int) ^ 18 ≤ n := of_decide_eq_false hb
    refine q_asg (by walk_at "sym ev") ?_
    refine run_seq ?_
    have hl : ((bs.map D.int).length : Int) = (bs.length : Int) := by rw [List.length_map]
    have hI : EvI K (iRng1 (tCons (tCB (gLen P w K) (tCons (tVar 1) tNil)) tNil)) (List.set (List.set (List.set (startE N__law_digits (en_digits (n, bs))) 2 (some (.ml []))) 3 (some (.im (.int n)))) 5 (some (.im (.int (n % 2147483629))))) ((List.range bs.length).map fun i => .int (i : Nat)) := by
      have := ei_range1 (K := K) (ds := (List.set (List.set (List.set (startE N__law_digits (en_digits (n, bs))) 2 (some (.ml []))) 3 (some (.im (.int n)))) 5 (some (.im (.int (n % 2147483629)))))) (n := (bs.length : Int)) (tr := tCons (tCB (gLen P w K) (tCons (tVar 1) tNil)) tNil) (by rw [← hl]; walk_at "sym ev") (by omega) (by omega)
      simpa using this
    refine run_for (enc := fun i : Nat => .int (i : Nat)) (as := List.range bs.length) (fun pre => [none, some (.im (dInts bs)), some (.ml ((mixF n bs pre.length).map D.int)), some (.im (.int n)), none, some (.im (.int (sdF n pre.length))), none, none]) (fun _ => True) hI (by walk_at "sym leT") trivial (fun pre k post hs _ => ?_) (fun _ => ?_)
    · obtain ⟨rfl, hk⟩ := range_split hs
      rw [List.length_append, List.length_range]
      have hm := h2 bs[k] (List.getElem_mem hk)
      have hg : (bs.map D.int)[k]? = some (.int bs[k]) := by rw [List.getElem?_map, List.getElem?_eq_getElem hk] <;> rfl
      have b0 := sdF_lt n k
      have b1 := sdF_lt n (k + 1)
      refine ⟨_, eg_name, ?_⟩
      refine q_asg (d := .int (sdF n (k + 1))) ?_ ?_
      · walk_at "sym ev"
        · exact cmul_of (a := 31) (b := 16) (by omega) (by omega) (by omega)
        · exact cmul_of (a := 20) (b := 20) (by omega) (by omega) (by omega)
      refine q_asg (d := .int (twF (sdF n (k + 1)))) ?_ ?_
      · walk_at "sym ev"
        · exact cdiv_of (b := 17) (by omega) (by omega) (by omega)
        · exact cmul_of (a := 31) (b := 31) (by omega) (by omega) (by omega)
      refine run_append (i := 2) rfl (d := .int (twF (sdF n (k + 1)) / 19 % bs[k])) ?_ ?_ ?_
      · walk_at "sym ev"
        · exact cdiv_of (b := 5) (by omega) (by omega) (by omega)
        · exact atI_of hg
      · rw [List.length_map]
        unfold mixF
        rw [List.length_map, List.length_range]
        omega
      · show le _ _ ∧ True
        rw [show [k].length = 1 by rfl, mixF_snoc, List.map_append, List.getD_eq_getElem?_getD, List.getElem?_eq_getElem hk]
        exact ⟨by walk_at "sym leT", trivial⟩
    · refine run_retL (i := 2) rfl ?_
      show fn_digits (n, bs) = Out.ret _
      unfold fn_digits digF
      rw [if_neg hn, List.length_range]
end
end Tw

/-! ComB: alphabets, words and their marks. -/
namespace Tw
open PySem PySem.Spec PyProof.Rows L2 Sym
section
variable {P : Program} {w : World} {K : PySem.W.Frag}
abbrev dT (l : List Nat) : D := .str (S' l)
abbrev dTs (zs : List (List Nat)) : D := .lst (zs.map dT)
abbrev letS : List Nat := [97, 98, 99, 100, 101, 102, 103, 104, 105, 106, 107, 108, 109, 110, 111, 112, 113, 114, 115, 116, 117, 118, 119, 120, 121, 122]
theorem letS_get : ∀ i : Nat, i < 26 → letS[i]? = some (97 + i) := by decide
theorem letS_at {i : Int} (h0 : 0 ≤ i) (h1 : i < 26) : atI letS i = some (97 + i.toNat) := atI_to h0 (letS_get i.toNat (by omega))
/-! ### _law_alphabet -/
def alF (r : Int × Int × Int × Int) : List Nat :=
  if r.1 = 0 then [97 + r.2.1.toNat] else if r.1 = 1 then [97 + r.2.1.toNat, 97 + (r.2.1 + 1 + r.2.2.1).toNat, 97 + (r.2.1 + 1 + r.2.2.1 + 1 + r.2.2.2).toNat] else [97 + r.2.1.toNat, 97 + (r.2.1 + 1 + r.2.2.1).toNat]
def en_alphabet (r : Int × Int × Int × Int) : List D := [dInts [r.1, r.2.1, r.2.2.1, r.2.2.2]]
def pr_alphabet (r : Int × Int × Int × Int) : Prop := 0 ≤ r.2.1 ∧ r.2.1 < 9 ∧ 0 ≤ r.2.2.1 ∧ r.2.2.1 < 8 ∧ 0 ≤ r.2.2.2 ∧ r.2.2.2 < 7
def fn_alphabet (r : Int × Int × Int × Int) : Out := .ret (dT (alF r))
abbrev sp_alphabet (K : PySem.W.Frag) : Sp := spF K en_alphabet pr_alphabet fn_alphabet
theorem run_alphabet (a : Int × Int × Int × Int) (E : XK) (h : pr_alphabet a) : Run K E (t__law_alphabet P w K E) (startE N__law_alphabet (en_alphabet a)) (Ends' (fn_alphabet a)) := by
  obtain ⟨r0, r1, r2, r3⟩ := a
  obtain ⟨h1, h2, h3, h4, h5, h6⟩ := h
  dsimp only at h1 h2 h3 h4 h5 h6
  unfold t__law_alphabet
  have g0 : atI ([r0, r1, r2, r3].map D.int) 0 = some (.int r0) := rfl
  have g1 : atI ([r0, r1, r2, r3].map D.int) 1 = some (.int r1) := rfl
  have g2 : atI ([r0, r1, r2, r3].map D.int) 2 = some (.int r2) := rfl
  have g3 : atI ([r0, r1, r2, r3].map D.int) 3 = some (.int r3) := rfl
  refine q_asg ev_str ?_
  refine q_asg (d := .int r1) (by walk_at "sym ev") ?_
  refine q_asg (d := .int (r1 + 1 + r2)) (by walk_at "sym ev") ?_
  refine q_asg (d := .int (r1 + 1 + r2 + 1 + r3)) (by walk_at "sym ev") ?_
  have e1 := letS_at (i := r1) (by omega) (by omega)
  have e2 := letS_at (i := r1 + 1 + r2) (by omega) (by omega)
  have e3 := letS_at (i := r1 + 1 + r2 + 1 + r3) (by omega) (by omega)
  refine q_when (b := decide (r0 = 0)) (by walk_at "sym ev") (fun hb => ?_) fun hb => ?_
  · refine run_ret (d := dT [97 + r1.toNat]) (by walk_at "sym ev") ?_
    show Out.ret _ = Out.ret _
    unfold alF
    rw [if_pos (of_decide_eq_true hb)]
  · have n0 := of_decide_eq_false hb
    refine q_when (b := decide (r0 = 1)) (by walk_at "sym ev") (fun hb => ?_) fun hb => ?_
    · refine run_ret (d := dT ([97 + r1.toNat] ++ [97 + (r1 + 1 + r2).toNat] ++ [97 + (r1 + 1 + r2 + 1 + r3).toNat])) (by walk_at "sym ev") ?_
      show Out.ret _ = Out.ret _
      unfold alF
      rw [if_neg n0, if_pos (of_decide_eq_true hb)] <;> rfl
    · refine run_ret (d := dT ([97 + r1.toNat] ++ [97 + (r1 + 1 + r2).toNat])) (by walk_at "sym ev") ?_
      show Out.ret _ = Out.ret _
      unfold alF
      rw [if_neg n0, if_neg (of_decide_eq_false hb)] <;> rfl
/-- an alphabet: one to four small letters in their order -/
structure Alp (al : List Nat) : Prop where
  low : ∀ c ∈ al, 97 ≤ c ∧ c ≤ 122
  up : al.Pairwise (· < ·)
  one : 1 ≤ al.length
  four : al.length ≤ 4
theorem alF_ok {r : Int × Int × Int × Int} (h : pr_alphabet r) : Alp (alF r) := by
  obtain ⟨h1, h2, h3, h4, h5, h6⟩ := h
  unfold alF
  split
  · exact ⟨fun c hc => by rw [List.mem_singleton.mp hc]; omega, by simp, by simp, by simp⟩
  · split
    · refine ⟨fun c hc => ?_, ?_, by simp, by simp⟩
      · simp only [List.mem_cons, List.not_mem_nil, or_false] at hc
        omega
      · simp only [List.pairwise_cons, List.mem_cons, List.not_mem_nil, or_false, forall_eq_or_imp, forall_eq, false_implies, implies_true, List.Pairwise.nil, and_true]
        omega
    · refine ⟨fun c hc => ?_, ?_, by simp, by simp⟩
      · simp only [List.mem_cons, List.not_mem_nil, or_false] at hc
        omega
      · simp only [List.pairwise_cons, List.mem_cons, List.not_mem_nil, or_false, forall_eq, false_implies, implies_true, List.Pairwise.nil, and_true]
        omega
/-! ### signs -/
/-- the other direction's sign -/
def swF (c : Nat) : Nat := if c = lo1 c then up1 c else lo1 c
def Asc (l : List Nat) : Prop := ∀ c ∈ l, c < 128
theorem asc_all {l : List Nat} (h : Asc l) : l.all (· < 128) = true := List.all_eq_true.mpr fun c hc => decide_eq_true (h c hc)
theorem asc_one {c : Nat} (h : c < 128) : [c].all (· < 128) = true := by simp [h]
theorem swF_lt {c : Nat} (h : c < 128) : swF c < 128 := by
  unfold swF
  split
  · unfold up1
    split <;> omega
  · unfold lo1
    split <;> omega
theorem up1_lt {c : Nat} (h : c < 128) : up1 c < 128 := by unfold up1; split <;> omega
theorem lo1_lt {c : Nat} (h : c < 128) : lo1 c < 128 := by unfold lo1; split <;> omega
def en_1T (c : Nat) : List D := [dT [c]]
def fn_swapped (c : Nat) : Out := .ret (dT [swF c])
abbrev sp_swapped (K : PySem.W.Frag) : Sp := spF K en_1T (· < 128) fn_swapped
theorem dec_one {a b : Nat} : decide ([a] = [b]) = decide (a = b) := by simp
theorem run_swapped (c : Nat) (E : XK) (h : c < 128) : Run K E (t__law_swapped P w K E) (startE N__law_swapped (en_1T c)) (Ends' (fn_swapped c)) := by
  unfold t__law_swapped
  have lw : ∀ {te : TE} {ds : Env'}, Ev K te ds (dT [c]) → Ev K (tM0 rLow te) ds (dT [lo1 c]) := fun h' => ev_lowS h' (asc_one h) (by show 1 ≤ 5592405; omega)
  have uw : ∀ {te : TE} {ds : Env'}, Ev K te ds (dT [c]) → Ev K (tM0 rUpp te) ds (dT [up1 c]) := fun h' => ev_uppS h' (asc_one h) (by show 1 ≤ 5592405; omega)
  refine q_when (b := decide (c = lo1 c)) ?_ (fun hb => ?_) fun hb => ?_
  · rw [← dec_one]
    exact et_test (ev_op2 (ev_var rfl) (lw (ev_var rfl)) o_eqSs)
  · refine run_ret (d := dT [up1 c]) (uw (ev_var rfl)) ?_
    show Out.ret _ = Out.ret _
    unfold swF
    rw [if_pos (of_decide_eq_true hb)]
  · refine run_ret (d := dT [lo1 c]) (lw (ev_var rfl)) ?_
    show Out.ret _ = Out.ret _
    unfold swF
    rw [if_neg (of_decide_eq_false hb)]
/-! ### _law_word -/
def sigF (al : List Nat) : List Nat := al ++ al.map up1
def wordF (al : List Nat) (row : List Int) (many : Nat) : List Nat := (List.range many).map fun k => (sigF al).getD ((row.getD k 0) % ((sigF al).length : Int)).toNat 0
def en_word (a : List Nat × List Int × Nat) : List D := [dT a.1, dInts a.2.1, .int (a.2.2 : Nat)]
def pr_word (a : List Nat × List Int × Nat) : Prop := Asc a.1 ∧ 1 ≤ a.1.length ∧ a.1.length ≤ 1000 ∧ a.2.2 ≤ a.2.1.length ∧ a.2.2 ≤ 100000
def fn_word (a : List Nat × List Int × Nat) : Out := .ret (dT (wordF a.1 a.2.1 a.2.2))
abbrev sp_word (K : PySem.W.Frag) : Sp := spF K en_word pr_word fn_word
theorem flat_one {α : Type} : ∀ l : List α, (l.map fun c => [c]).flatten = l
  | [] => rfl
  | c :: r => by
    rw [List.map_cons, List.flatten_cons, flat_one r] <;> rfl
theorem sum_one {α : Type} (l : List α) : ((l.map fun c => [c]).map (·.length)).sum = l.length := by
  induction l with
  | nil => rfl
  | cons c r ih => rw [List.map_cons, List.map_cons, List.sum_cons, ih]; show 1 + r.length = r.length + 1; omega
/-- ''.join of one-sign texts -/
theorem ev_join1 {te : TE} {ds : Env'} {l : List Nat} (h : Ev K te ds (.lst (l.map fun c => dT [c]))) (hl : l.length ≤ 16777216) : Ev K (tM1 (rJoin K) (tC (.str (S' []))) te) ds (dT l) := by
  have := ev_join0 (K := K) (ds := ds) (te := te) (zs := l.map fun c => [c]) (by rw [List.map_map]; exact h) (by rw [sum_one]; exact hl)
  rw [flat_one] at this
  exact this
theorem ei_rangeN {te : TE} {ds : Env'} {n : Nat} (h : Ev K te ds (.int (n : Nat))) (hn : n < 2 ^ 40) : EvI K (iRng1 (tCons te tNil)) ds ((List.range n).map fun i => .int (i : Nat)) := by
  have := ei_range1 (K := K) (ds := ds) (n := (n : Int)) (tr := tCons te tNil) (ea_cons h ea_nil) (by omega) (by omega)
  simpa using this
theorem run_word (a : List Nat × List Int × Nat) (E : XK) (h : pr_word a) : Run K E (t__law_word P w K E) (startE N__law_word (en_word a)) (Ends' (fn_word a)) := by
  obtain ⟨al, row, many⟩ := a
  obtain ⟨h1, h2, h3, h4, h5⟩ := h
  dsimp only at h1 h2 h3 h4 h5
  unfold t__law_word
  refine q_asg (d := .lst ((sigF al).map fun c => dT [c])) ?_ ?_
  · have e : (sigF al).map (fun c => dT [c]) = (al.map fun c => dT [c]) ++ (al.map fun c => dT [up1 c]) := by
      unfold sigF
      rw [List.map_append, List.map_map] <;> rfl
    rw [e]
    refine ev_op2 (ev_lc0 (enc := fun c => dT [c]) (as := al) (fun c => dT [c]) (ei_strS (ev_var rfl)) (by omega) fun pre c post hs => ⟨_, gw_name, ev_var rfl⟩)
      (ev_lc0 (enc := fun c => dT [c]) (as := al) (fun c => dT [up1 c]) (ei_strS (ev_var rfl)) (by omega) fun pre c post hs => ⟨_, gw_name, ev_uppS (l := [c]) (ev_var rfl) (asc_one (h1 c (by rw [hs]; simp))) (by show 1 ≤ 5592405; omega)⟩) (o_addL (by simp; omega))
  · refine run_ret (d := dT (wordF al row many)) ?_ rfl
    refine ev_join1 ?_ (by unfold wordF; simp; omega)
    have hl : (sigF al).length = 2 * al.length := by unfold sigF; rw [List.length_append, List.length_map]; omega
    unfold wordF
    rw [List.map_map]
    refine ev_lc0 (enc := fun i : Nat => .int (i : Nat)) (as := List.range many) _ (ei_rangeN (ev_var rfl) (by omega)) (by simp; omega) fun pre k post hs => ?_
    obtain ⟨_, hk⟩ := range_split hs
    refine ⟨_, gw_name, ?_⟩
    have hr : k < row.length := by omega
    have hg : atI (row.map D.int) (k : Nat) = some (.int row[k]) := atI_of (by rw [List.getElem?_map, List.getElem?_eq_getElem hr] <;> rfl)
    have hm : ∀ x : Int, 0 ≤ x % ((sigF al).length : Int) ∧ x % ((sigF al).length : Int) < (sigF al).length := fun x => ⟨Int.emod_nonneg _ (by omega), Int.emod_lt_of_pos _ (by omega)⟩
    have hj : (row[k] % ((sigF al).length : Int)).toNat < (sigF al).length := by have := hm row[k]; omega
    have e1 : ((sigF al).map fun c => dT [c]).length = (sigF al).length := by rw [List.length_map]
    have hg2 : atI ((sigF al).map fun c => dT [c]) (row[k] % ((sigF al).length : Int)) = some (dT [(sigF al)[(row[k] % ((sigF al).length : Int)).toNat]]) := atI_to (hm _).1 (by rw [List.getElem?_map, List.getElem?_eq_getElem hj] <;> rfl)
    have hd : (dT [(sigF al).getD ((row.getD k 0) % ((sigF al).length : Int)).toNat 0]) = dT [(sigF al)[(row[k] % ((sigF al).length : Int)).toNat]] := by
      rw [List.getD_eq_getElem?_getD, List.getD_eq_getElem?_getD, List.getElem?_eq_getElem hr, Option.getD_some, List.getElem?_eq_getElem hj, Option.getD_some]
    show Ev K _ _ (dT [(sigF al).getD ((row.getD k 0) % ((sigF al).length : Int)).toNat 0])
    rw [hd]
    have hmod : Ev K (tOp gMod (tCB gInt (tCons (tIx P w K (tVar 1) (tVar 5)) tNil)) (tCB (gLen P w K) (tCons (tVar 3) tNil))) (List.set (wipeD (List.set (startE N__law_word (en_word (al, row, many))) 3 (some (S.im (D.lst (List.map (fun c => dT [c]) (sigF al)))))) [5]) 5 (some (S.im (D.int (k : Nat))))) (.int (row[k] % ((sigF al).length : Int))) := by
      have q : ((((sigF al).map fun c => dT [c]).length : Nat) : Int) = ((sigF al).length : Int) := by rw [e1]
      rw [← q]
      walk_at "sym ev"
    exact ev_ix (ev_var rfl) hmod (o_ixL hg2)
/-! ### undone, struck -/
def undF (l : List Nat) : List Nat := l.reverse.map swF
theorem undF_asc {l : List Nat} (h : Asc l) : Asc (undF l) := fun c hc => by
  unfold undF at hc
  obtain ⟨d, hd, rfl⟩ := List.mem_map.mp hc
  exact swF_lt (h d (List.mem_reverse.mp hd))
theorem undF_len (l : List Nat) : (undF l).length = l.length := by unfold undF; simp
def en_T (l : List Nat) : List D := [dT l]
def pr_T (l : List Nat) : Prop := Asc l ∧ l.length ≤ 100000
def fn_undone (l : List Nat) : Out := .ret (dT (undF l))
abbrev sp_undone (K : PySem.W.Frag) : Sp := spF K en_T pr_T fn_undone
theorem run_undone (l : List Nat) (E : XK) (h : pr_T l) : Run K E (t__law_undone P w K E (sp_swapped K)) (startE N__law_undone (en_T l)) (Ends' (fn_undone l)) := by
  obtain ⟨h1, h2⟩ := h
  unfold t__law_undone
  refine run_ret (d := dT (undF l)) ?_ rfl
  refine ev_join1 ?_ (by rw [undF_len]; omega)
  have e : (undF l).map (fun c => dT [c]) = (List.range l.length).map fun k => dT [swF (l.getD (l.length - 1 - k) 0)] := by
    apply List.ext_getElem?
    intro k
    unfold undF
    rw [List.getElem?_map, List.getElem?_map, List.getElem?_map]
    by_cases hk : k < l.length
    · rw [List.getElem?_reverse hk, List.getElem?_range hk, List.getElem?_eq_getElem (show l.length - 1 - k < l.length by omega)]
      show some (dT [swF l[l.length - 1 - k]]) = some (dT [swF (l.getD (l.length - 1 - k) 0)])
      rw [List.getD_eq_getElem?_getD, List.getElem?_eq_getElem (show l.length - 1 - k < l.length by omega)] <;> rfl
    · rw [List.getElem?_eq_none (by simp; omega), List.getElem?_eq_none (by simp; omega)] <;> rfl
  rw [e]
  refine ev_lc0 (enc := fun i : Nat => .int (i : Nat)) (as := List.range l.length) _ (ei_rangeN (by walk_at "sym ev") (by omega)) (by simp; omega) fun pre k post hs => ?_
  obtain ⟨_, hk⟩ := range_split hs
  have hj : l.length - 1 - k < l.length := by omega
  have hgd : l.getD (l.length - 1 - k) 0 = l[l.length - 1 - k] := by rw [List.getD_eq_getElem?_getD, List.getElem?_eq_getElem hj] <;> rfl
  refine ⟨_, gw_name, ev_call (enc := en_1T) (pre := (· < 128)) (f := fn_swapped) (l[l.length - 1 - k]) ?_ (h1 _ (List.getElem_mem hj)) (by show fn_swapped _ = _; unfold fn_swapped; rw [hgd])⟩
  have hi : ((l.length : Int) - 1 - (k : Int)) = ((l.length - 1 - k : Nat) : Int) := by omega
  unfold en_1T
  walk_at "sym ev"
  rw [hi]
  exact atI_of (List.getElem?_eq_getElem hj)
def stkF (st : List Nat) (c : Nat) : List Nat := if st.getLast? = some (swF c) then st.dropLast else st ++ [c]
def struckF (l : List Nat) : List Nat := l.foldl stkF []
theorem struckF_snoc (l : List Nat) (c : Nat) : struckF (l ++ [c]) = stkF (struckF l) c := by
  unfold struckF
  rw [List.foldl_append] <;> rfl
theorem stkF_mem {st : List Nat} {c d : Nat} (h : d ∈ stkF st c) : d ∈ st ∨ d = c := by
  unfold stkF at h
  split at h
  · exact .inl ((List.dropLast_sublist st).subset h)
  · simpa using h
theorem stkF_len (st : List Nat) (c : Nat) : (stkF st c).length ≤ st.length + 1 := by
  unfold stkF
  split
  · rw [List.length_dropLast]; omega
  · simp
theorem snoc_ind {α : Type} {p : List α → Prop} (h0 : p []) (h1 : ∀ l a, p l → p (l ++ [a])) : ∀ l, p l := fun l => by
  have : ∀ r : List α, p r.reverse := fun r => by
    induction r with
    | nil => exact h0
    | cons a r ih => rw [List.reverse_cons]; exact h1 _ _ ih
  have q := this l.reverse
  rw [List.reverse_reverse] at q
  exact q
theorem struckF_mem : ∀ (l : List Nat) (d : Nat), d ∈ struckF l → d ∈ l := fun l => by
  refine snoc_ind (p := fun l => ∀ d, d ∈ struckF l → d ∈ l) (fun d h => h) (fun l c ih d h => ?_) l
  rw [struckF_snoc] at h
  rcases stkF_mem h with h | h
  · exact List.mem_append.mpr (.inl (ih d h))
  · exact List.mem_append.mpr (.inr (by rw [h]; simp))
theorem struckF_asc {l : List Nat} (h : Asc l) : Asc (struckF l) := fun c hc => h c (struckF_mem l c hc)
theorem struckF_len (l : List Nat) : (struckF l).length ≤ l.length := by
  refine snoc_ind (p := fun l => (struckF l).length ≤ l.length) (Nat.le_refl _) (fun l c ih => ?_) l
  rw [struckF_snoc]
  have := stkF_len (struckF l) c
  rw [List.length_append]
  show _ ≤ l.length + 1
  omega
def fn_struck (l : List Nat) : Out := .ret (dT (struckF l))
abbrev sp_struck (K : PySem.W.Frag) : Sp := spF K en_T pr_T fn_struck
theorem run_struck (l : List Nat) (E : XK) (h : pr_T l) : Run K E (t__law_struck P w K E (sp_swapped K)) (startE N__law_struck (en_T l)) (Ends' (fn_struck l)) := by
  obtain ⟨h1, h2⟩ := h
  unfold t__law_struck
  refine q_newL ea_nil (by decide) ?_
  refine run_seq ?_
  refine run_for (enc := fun c => dT [c]) (as := l) (fun pre => [some (.im (dT l)), some (.ml ((struckF pre).map fun c => dT [c])), none]) (fun _ => True) (ei_strS (ev_var rfl)) (by walk_at "sym leT") trivial (fun pre c post hs _ => ?_) (fun _ => ?_)
  · have hc : c < 128 := h1 c (by rw [hs]; simp)
    have hlen : (struckF pre).length < 16777216 := by
      have e := congrArg List.length hs
      rw [List.length_append] at e
      have := struckF_len pre
      omega
    refine ⟨_, eg_name, ?_⟩
    refine run_if (b := decide ((0 : Int) < ((struckF pre).map fun c => dT [c]).length) && decide ((struckF pre).getLast? = some (swF c))) ?_ (fun hb => ?_) fun hb => ?_
    · refine et_and (by walk_at "sym ev") fun hb => ?_
      have hne : struckF pre ≠ [] := fun z => by
        rw [z] at hb
        exact absurd hb (by decide)
      have e : decide ((struckF pre).getLast? = some (swF c)) = decide ([(struckF pre).getLast hne] = [swF c]) := by
        rw [List.getLast?_eq_some_getLast hne]
        simp
      rw [e]
      refine et_test (ev_op2 (ev_ixM rfl (ev_neg ev_int) (atI_end ?_)) (ev_call (enc := en_1T) (pre := (· < 128)) (f := fn_swapped) c (ea_cons (ev_var rfl) ea_nil) hc rfl) o_eqSs)
      rw [List.getLast?_map, List.getLast?_eq_some_getLast hne] <;> rfl
    · obtain ⟨b1, b2⟩ := Bool.and_eq_true_iff.mp hb
      have hne : (struckF pre).map (fun c => dT [c]) ≠ [] := fun z => by
        rw [z] at b1
        exact absurd b1 (by decide)
      refine run_pop (i := 1) rfl hne ?_
      rw [struckF_snoc]
      unfold stkF
      rw [if_pos (of_decide_eq_true b2), List.map_dropLast]
      exact ⟨by walk_at "sym leT", trivial⟩
    · have hn : ¬ (struckF pre).getLast? = some (swF c) := fun z => by
        rw [decide_eq_true z, Bool.and_true] at hb
        have := of_decide_eq_false hb
        rw [List.length_map] at this
        have h0 : (struckF pre).length = 0 := by omega
        rw [List.length_eq_zero_iff.mp h0] at z
        cases z
      refine run_append (i := 1) rfl (d := dT [c]) (ev_var rfl) (by rw [List.length_map]; exact hlen) ?_
      rw [struckF_snoc]
      unfold stkF
      rw [if_neg hn, List.map_append]
      exact ⟨by walk_at "sym leT", trivial⟩
  · refine run_freeze 1 rfl (run_ret (d := dT (struckF l)) ?_ rfl)
    exact ev_join1 (ev_var rfl) (by have := struckF_len l; omega)
def ownF (one two : List Nat) : List Nat := struckF (one ++ two ++ undF one ++ undF two)
def en_2T (a : List Nat × List Nat) : List D := [dT a.1, dT a.2]
def pr_2T (a : List Nat × List Nat) : Prop := Asc a.1 ∧ a.1.length ≤ 20000 ∧ Asc a.2 ∧ a.2.length ≤ 20000
def fn_own (a : List Nat × List Nat) : Out := .ret (dT (ownF a.1 a.2))
abbrev sp_own (K : PySem.W.Frag) : Sp := spF K en_2T pr_2T fn_own
theorem Asc.app {l m : List Nat} (h : Asc l) (h2 : Asc m) : Asc (l ++ m) := fun c hc => (List.mem_append.mp hc).elim (h c) (h2 c)
theorem run_own (a : List Nat × List Nat) (E : XK) (h : pr_2T a) : Run K E (t__law_own_detour P w K E (sp_struck K) (sp_undone K)) (startE N__law_own_detour (en_2T a)) (Ends' (fn_own a)) := by
  obtain ⟨one, two⟩ := a
  obtain ⟨h1, h2, h3, h4⟩ := h
  dsimp only at h1 h2 h3 h4
  unfold t__law_own_detour
  have u1 := undF_len one
  have u2 := undF_len two
  refine run_ret (d := dT (ownF one two)) (ev_call (enc := en_T) (pre := pr_T) (f := fn_struck) (one ++ two ++ undF one ++ undF two) (ea_cons ?_ ea_nil) ⟨((h1.app h3).app (undF_asc h1)).app (undF_asc h3), by simp only [List.length_append]; omega⟩ rfl) rfl
  refine ev_op2 (ev_op2 (ev_op2 (ev_var rfl) (ev_var rfl) (o_addSs (l := one) (m := two) (by omega))) (ev_call (enc := en_T) (pre := pr_T) (f := fn_undone) one (ea_cons (ev_var rfl) ea_nil) ⟨h1, by omega⟩ rfl) (o_addSs (by simp only [List.length_append]; omega))) (ev_call (enc := en_T) (pre := pr_T) (f := fn_undone) two (ea_cons (ev_var rfl) ea_nil) ⟨h3, by omega⟩ rfl) (o_addSs (by simp only [List.length_append]; omega))
end
end Tw

/-! ComC: alphabets and words looked at; classes by storeys. -/
namespace Tw
open PySem PySem.Spec PyProof.Rows L2 Sym
section
variable {P : Program} {w : World} {K : PySem.W.Frag}
/-! ### is_alphabet -/
def upF : List Nat → Bool
  | a :: b :: r => decide (a < b) && upF (b :: r)
  | _ => true
def isAlF (l : List Nat) : Bool := decide (1 ≤ l.length) && decide (l.length ≤ 4) && l.all (fun c => decide (c ∈ letS)) && upF l
theorem upF_iff : ∀ l : List Nat, upF l = true ↔ ∀ i, i + 1 < l.length → l.getD i 0 < l.getD (i + 1) 0
  | [] => by simp [upF]
  | [a] => by simp [upF]
  | a :: b :: r => by
    have ih := upF_iff (b :: r)
    show (decide (a < b) && upF (b :: r)) = true ↔ _
    rw [Bool.and_eq_true, ih, decide_eq_true_eq]
    constructor
    · rintro ⟨h1, h2⟩ i hi
      cases i with
      | zero => exact h1
      | succ i => exact h2 i (by simp at hi ⊢; omega)
    · intro h
      exact ⟨h 0 (by simp), fun i hi => h (i + 1) (by simp at hi ⊢; omega)⟩
theorem isAlF_of {l : List Nat} (h : Alp l) : isAlF l = true := by
  unfold isAlF
  rw [decide_eq_true h.one, decide_eq_true h.four, Bool.true_and, Bool.true_and, Bool.and_eq_true]
  refine ⟨List.all_eq_true.mpr fun c hc => decide_eq_true ?_, (upF_iff l).mpr fun i hi => ?_⟩
  · have := h.low c hc
    have key : ∀ c : Nat, 97 ≤ c ∧ c ≤ 122 → c ∈ letS := fun c hc => by
      simp only [List.mem_cons, List.not_mem_nil, or_false]
      omega
    exact key c this
  · have h1 : i < l.length := by omega
    rw [List.getD_eq_getElem?_getD, List.getD_eq_getElem?_getD, List.getElem?_eq_getElem h1, List.getElem?_eq_getElem hi]
    exact List.pairwise_iff_getElem.mp h.up i (i + 1) h1 hi (by omega)
def fn_isAl (l : List Nat) : Out := .ret (.bl (isAlF l))
def pr_any (l : List Nat) : Prop := l.length ≤ 100000
abbrev sp_isAl (K : PySem.W.Frag) : Sp := spF K en_T pr_any fn_isAl
theorem dec_lt1 {a b : Nat} : decide ([a] < [b]) = decide (a < b) := by
  have e : ([a] < [b]) ↔ a < b := by
    constructor
    · intro h
      cases h with
      | rel h => exact h
      | cons h => cases h
    · exact fun h => .rel h
  exact decide_eq_decide.mpr e
theorem not_tt {b : Bool} (h : (!b) = true) : b = false := by cases b <;> first | rfl | cases h
theorem not_ff {b : Bool} (h : (!b) = false) : b = true := by cases b <;> first | rfl | cases h
theorem run_isAl (l : List Nat) (E : XK) (h : pr_any l) : Run K E (t_is_alphabet P w K E) (startE N_is_alphabet (en_T l)) (Ends' (fn_isAl l)) := by
  have h2 : l.length ≤ 100000 := h
  unfold t_is_alphabet
  have hlen : ∀ {ds : Env'}, ds[0]? = some (some (.im (dT l))) → Ev K (tCB (gLen P w K) (tCons (tVar 0) tNil)) ds (.int (l.length : Nat)) := fun e => ev_cb (ea_cons (ev_var e) ea_nil) (c_lenSs (by omega))
  refine q_when (b := !(decide ((1 : Int) ≤ (l.length : Int)) && decide ((l.length : Int) ≤ 4))) (et_not (et_test (ev_chain ev_int (hlen rfl) o_le (fun _ => ev_int) fun _ => o_le))) (fun hb => ?_) fun hb => ?_
  · refine run_ret ev_bl ?_
    show fn_isAl l = Out.ret _
    unfold fn_isAl isAlF
    have e : (decide (1 ≤ l.length) && decide (l.length ≤ 4)) = (decide ((1 : Int) ≤ (l.length : Int)) && decide ((l.length : Int) ≤ 4)) := by
      congr 1
      · exact decide_eq_decide.mpr (by omega)
      · exact decide_eq_decide.mpr (by omega)
    rw [e, show (decide ((1 : Int) ≤ (l.length : Int)) && decide ((l.length : Int) ≤ 4)) = false from not_tt hb] <;> rfl
  · have hb' : (decide ((1 : Int) ≤ (l.length : Int)) && decide ((l.length : Int) ≤ 4)) = true := not_ff hb
    obtain ⟨b1, b2⟩ := Bool.and_eq_true_iff.mp hb'
    have b1 := of_decide_eq_true b1
    have b2 := of_decide_eq_true b2
    refine run_seq ?_
    refine run_for (enc := fun c => dT [c]) (as := l) (fun pre => [some (.im (dT l)), none, none]) (fun pre => ∀ c ∈ pre, c ∈ letS) (ei_strS (ev_var rfl)) (by walk_at "sym leT") (fun _ z => by cases z) (fun pre c post hs hI => ?_) (fun hI => ?_)
    · refine ⟨_, eg_name, ?_⟩
      refine run_if (b := !decide (c ∈ letS)) (by walk_at "sym ev") (fun hb => ?_) fun hb => ?_
      · refine run_ret ev_bl ?_
        show fn_isAl l = Out.ret _
        unfold fn_isAl isAlF
        have hc : ¬ c ∈ letS := of_decide_eq_false (not_tt hb)
        have e : l.all (fun c => decide (c ∈ letS)) = false := List.all_eq_false.mpr ⟨c, by rw [hs]; simp, by rw [decide_eq_false hc]; decide⟩
        rw [e, Bool.and_false, Bool.false_and]
      · have hc : c ∈ letS := of_decide_eq_true (not_ff hb)
        refine run_next ⟨by walk_at "sym leT", fun d hd => ?_⟩
        rcases List.mem_append.mp hd with q | q
        · exact hI d q
        · rw [List.mem_singleton.mp q]
          exact hc
    · have hall : l.all (fun c => decide (c ∈ letS)) = true := List.all_eq_true.mpr fun c hc => decide_eq_true (hI c hc)
      have d1 : decide (1 ≤ l.length) = true := decide_eq_true (by omega)
      have d2 : decide (l.length ≤ 4) = true := decide_eq_true (by omega)
      refine run_seq ?_
      refine run_for (enc := fun i : Nat => .int (1 + (i : Nat))) (as := List.range (l.length - 1)) (fun pre => [some (.im (dT l)), none, none]) (fun pre => ∀ i, i < pre.length → l.getD i 0 < l.getD (i + 1) 0) ?_ (by walk_at "sym leT") (fun _ z => by simp at z) (fun pre k post hs hI => ?_) (fun hI => ?_)
      · have := ei_range2 (K := K) (lo := 1) (n := (l.length : Int)) (tr := tCons (tC (V.int 1)) (tCons (tCB (gLen P w K) (tCons (tVar 0) tNil)) tNil)) (ds := [some (.im (dT l)), none, none]) (ea_cons ev_int (ea_cons (hlen rfl) ea_nil)) (by omega)
        rw [show ((l.length : Int) - 1).toNat = l.length - 1 by omega] at this
        exact this
      · obtain ⟨rfl, hk⟩ := range_split hs
        rw [List.length_range] at hI
        have hk1 : k < l.length := by omega
        have hk2 : k + 1 < l.length := by omega
        refine ⟨_, eg_name, ?_⟩
        have g1 : l.getD k 0 = l[k] := by rw [List.getD_eq_getElem?_getD, List.getElem?_eq_getElem hk1] <;> rfl
        have g2 : l.getD (k + 1) 0 = l[k + 1] := by rw [List.getD_eq_getElem?_getD, List.getElem?_eq_getElem hk2] <;> rfl
        have a1 : atI l (1 + (k : Int) - 1) = some l[k] := by rw [show 1 + (k : Int) - 1 = (k : Nat) by omega]; exact atI_of (List.getElem?_eq_getElem hk1)
        have a2 : atI l (1 + (k : Int)) = some l[k + 1] := by rw [show 1 + (k : Int) = ((k + 1 : Nat) : Int) by omega]; exact atI_of (List.getElem?_eq_getElem hk2)
        refine run_if (b := !decide ([l[k]] < [l[k + 1]])) (by walk_at "sym ev") (fun hb => ?_) fun hb => ?_
        · refine run_ret ev_bl ?_
          rw [dec_lt1] at hb
          show fn_isAl l = Out.ret _
          unfold fn_isAl isAlF
          have e : upF l = false := by
            cases q : upF l with
            | false => rfl
            | true =>
              have := (upF_iff l).mp q k hk2
              rw [g1, g2] at this
              rw [decide_eq_true this] at hb
              cases hb
          rw [e, Bool.and_false]
        · rw [dec_lt1] at hb
          have hc : l[k] < l[k + 1] := of_decide_eq_true (not_ff hb)
          refine run_next ⟨by walk_at "sym leT", fun i hi => ?_⟩
          rw [List.length_append, List.length_range] at hi
          by_cases q : i < k
          · exact hI i q
          · have : i = k := by simp at hi; omega
            subst this
            rw [g1, g2]
            exact hc
      · refine run_ret ev_bl ?_
        show fn_isAl l = Out.ret _
        rw [List.length_range] at hI
        have e : upF l = true := (upF_iff l).mpr fun i hi => hI i (by omega)
        unfold fn_isAl isAlF
        rw [d1, d2, hall, e] <;> rfl
/-! ### is_word -/
def isWdF (al l : List Nat) : Bool := l.all fun c => decide (c ∈ sigF al)
def en_AT (a : List Nat × List Nat) : List D := [dT a.1, dT a.2]
def pr_AT (a : List Nat × List Nat) : Prop := Asc a.1 ∧ a.1.length ≤ 1000
def fn_isWd (a : List Nat × List Nat) : Out := .ret (.bl (isWdF a.1 a.2))
abbrev sp_isWd (K : PySem.W.Frag) : Sp := spF K en_AT pr_AT fn_isWd
theorem run_isWd (a : List Nat × List Nat) (E : XK) (h : pr_AT a) : Run K E (t_is_word P w K E) (startE N_is_word (en_AT a)) (Ends' (fn_isWd a)) := by
  obtain ⟨al, l⟩ := a
  obtain ⟨h1, h2⟩ := h
  dsimp only at h1 h2
  unfold t_is_word
  refine q_asg (d := dT (sigF al)) (ev_op2 (ev_var rfl) (ev_uppS (l := al) (ev_var rfl) (asc_all h1) (by omega)) (o_addSs (l := al) (by rw [List.length_map]; omega))) ?_
  refine run_seq ?_
  refine run_for (enc := fun c => dT [c]) (as := l) (fun pre => [some (.im (dT al)), none, some (.im (dT (sigF al))), none]) (fun pre => ∀ c ∈ pre, c ∈ sigF al) (ei_strS (ev_var rfl)) (by walk_at "sym leT") (fun _ z => by cases z) (fun pre c post hs hI => ?_) (fun hI => ?_)
  · refine ⟨_, eg_name, ?_⟩
    refine run_if (b := !decide (c ∈ sigF al)) (by walk_at "sym ev") (fun hb => ?_) fun hb => ?_
    · refine run_ret ev_bl ?_
      show fn_isWd (al, l) = Out.ret _
      unfold fn_isWd isWdF
      have hc : ¬ c ∈ sigF al := of_decide_eq_false (not_tt hb)
      have e : l.all (fun c => decide (c ∈ sigF al)) = false := List.all_eq_false.mpr ⟨c, by rw [hs]; simp, by rw [decide_eq_false hc]; decide⟩
      dsimp only
      rw [e]
    · have hc : c ∈ sigF al := of_decide_eq_true (not_ff hb)
      refine run_next ⟨by walk_at "sym leT", fun d hd => ?_⟩
      rcases List.mem_append.mp hd with q | q
      · exact hI d q
      · rw [List.mem_singleton.mp q]
        exact hc
  · refine run_ret ev_bl ?_
    show fn_isWd (al, l) = Out.ret _
    unfold fn_isWd isWdF
    have e : l.all (fun c => decide (c ∈ sigF al)) = true := List.all_eq_true.mpr fun c hc => decide_eq_true (hI c hc)
    dsimp only
    rw [e]
/-! ### checks -/
def fn_chAl (C : Addr) (l : List Nat) : Out := if isAlF l then .ret .non else .exc C [("alphabet", dT l)]
abbrev sp_chAl (K : PySem.W.Frag) (C : Addr) : Sp := spF K en_T pr_any (fn_chAl C)
theorem run_chAl (C : Addr) (l : List Nat) (E : XK) (h : pr_any l) : Run K E (t_check_alphabet P w K E (sp_isAl K) C) (startE N_check_alphabet (en_T l)) (Ends' (fn_chAl C l)) := by
  unfold t_check_alphabet
  refine run_if (b := !isAlF l) (et_not (et_tru (ev_call (enc := en_T) (pre := pr_any) (f := fn_isAl) l (ea_cons (ev_var rfl) ea_nil) h rfl) rfl)) (fun hb => ?_) fun hb => ?_
  · refine run_rai (d := dT l) (ea_cons (ev_var rfl) ea_nil) ?_
    show fn_chAl C l = Out.exc _ _
    unfold fn_chAl
    rw [show isAlF l = false from not_tt hb] <;> rfl
  · refine run_next ?_
    show fn_chAl C l = Out.ret _
    unfold fn_chAl
    rw [show isAlF l = true from not_ff hb] <;> rfl
def fn_chWd (C : Addr) (a : List Nat × List Nat) : Out := if isWdF a.1 a.2 then .ret .non else .exc C [("word", dT a.2)]
abbrev sp_chWd (K : PySem.W.Frag) (C : Addr) : Sp := spF K en_AT pr_AT (fn_chWd C)
theorem run_chWd (C : Addr) (a : List Nat × List Nat) (E : XK) (h : pr_AT a) : Run K E (t_check_word P w K E (sp_isWd K) C) (startE N_check_word (en_AT a)) (Ends' (fn_chWd C a)) := by
  unfold t_check_word
  refine run_if (b := !isWdF a.1 a.2) (et_not (et_tru (ev_call (enc := en_AT) (pre := pr_AT) (f := fn_isWd) a (ea_cons (ev_var rfl) (ea_cons (ev_var rfl) ea_nil)) h rfl) rfl)) (fun hb => ?_) fun hb => ?_
  · refine run_rai (d := dT a.2) (ea_cons (ev_var rfl) ea_nil) ?_
    show fn_chWd C a = Out.exc _ _
    unfold fn_chWd
    rw [show isWdF a.1 a.2 = false from not_tt hb] <;> rfl
  · refine run_next ?_
    show fn_chWd C a = Out.ret _
    unfold fn_chWd
    rw [show isWdF a.1 a.2 = true from not_ff hb] <;> rfl
/-- a list or a tuple of texts -/
def dSeq (b : Bool) (xs : List D) : D := if b then .lst xs else .tup xs
theorem ei_seq {te : TE} {ds : Env'} {b : Bool} {xs : List D} (h : Ev K te ds (dSeq b xs)) : EvI K (iAny K te) ds xs := by
  cases b with
  | true => exact ei_list h
  | false => exact ei_tup h
structure WIn where
  al : List Nat
  b : Bool
  ws : List (List Nat)
def en_chWs (a : WIn) : List D := [dT a.al, dSeq a.b (a.ws.map dT)]
def pr_chWs (a : WIn) : Prop := Asc a.al ∧ a.al.length ≤ 1000
/-- the first word that is none -/
def badF (al : List Nat) (ws : List (List Nat)) : Option (List Nat) := ws.find? fun l => !isWdF al l
def fn_chWs (C1 C2 : Addr) (a : WIn) : Out := if isAlF a.al then (match badF a.al a.ws with | some l => .exc C2 [("word", dT l)] | none => .ret .non) else .exc C1 [("alphabet", dT a.al)]
abbrev sp_chWs (K : PySem.W.Frag) (C1 C2 : Addr) : Sp := spF K en_chWs pr_chWs (fn_chWs C1 C2)
theorem run_chWs (C1 C2 : Addr) (a : WIn) (E : XK) (h : pr_chWs a) : Run K E (t_check_words P w K E (sp_chWd K C2) (sp_chAl K C1)) (startE N_check_words (en_chWs a)) (Ends' (fn_chWs C1 C2 a)) := by
  obtain ⟨al, b, ws⟩ := a
  obtain ⟨h1, h2⟩ := h
  dsimp only at h1 h2
  unfold t_check_words
  refine run_seq ?_
  refine run_dropX (enc := en_T) (pre := pr_any) (f := fn_chAl C1) al (ea_cons (ev_var rfl) ea_nil) (by show al.length ≤ 100000; omega) (fun d hd => ?_) fun C fs he => ?_
  · have hA : isAlF al = true := by
      unfold fn_chAl at hd
      split at hd
      · assumption
      · cases hd
    refine run_for (enc := dT) (as := ws) (fun pre => [some (.im (dT al)), none, none]) (fun pre => ∀ l ∈ pre, isWdF al l = true) (ei_seq (ev_var rfl)) (by walk_at "sym leT") (fun _ z => by cases z) (fun pre l post hs hI => ?_) (fun hI => ?_)
    · refine ⟨_, eg_name, ?_⟩
      refine run_dropX (enc := en_AT) (pre := pr_AT) (f := fn_chWd C2) (al, l) (ea_cons (ev_var rfl) (ea_cons (ev_var rfl) ea_nil)) ⟨h1, h2⟩ (fun d hd => ?_) fun C fs he => ?_
      · refine ⟨by walk_at "sym leT", fun m hm => ?_⟩
        rcases List.mem_append.mp hm with q | q
        · exact hI m q
        · rw [List.mem_singleton.mp q]
          unfold fn_chWd at hd
          split at hd
          · assumption
          · cases hd
      · show fn_chWs C1 C2 ⟨al, b, ws⟩ = Out.exc _ _
        unfold fn_chWd at he
        split at he
        · cases he
        · next hw =>
          unfold fn_chWs badF
          dsimp only
          rw [if_pos hA, hs, List.find?_append, List.find?_eq_none.mpr (fun m hm => by rw [hI m hm]; decide)]
          have hw' : (!isWdF al l) = true := by simpa using hw
          rw [List.find?_cons, hw']
          exact he
    · show fn_chWs C1 C2 ⟨al, b, ws⟩ = Out.ret _
      unfold fn_chWs badF
      dsimp only
      rw [if_pos hA, List.find?_eq_none.mpr (fun m hm => by rw [hI m hm]; decide)]
  · show fn_chWs C1 C2 ⟨al, b, ws⟩ = Out.exc _ _
    unfold fn_chAl at he
    split at he
    · cases he
    · next hA =>
      unfold fn_chWs
      dsimp only
      rw [if_neg hA]
      exact he
end
end Tw

/-! ComD: numbering, roads, counts. -/
namespace Tw
open PySem PySem.Spec PyProof.Rows L2 Sym
section
variable {P : Program} {w : World} {K : PySem.W.Frag}
/-! ### signs of an alphabet -/
def dirF (c : Nat) : Int := if c = lo1 c then 1 else -1
def en_AS (a : List Nat × Nat) : List D := [dT a.1, dT [a.2]]
def pr_AS (a : List Nat × Nat) : Prop := a.2 < 128 ∧ lo1 a.2 ∈ a.1
def fn_sgIx (a : List Nat × Nat) : Out := .ret (.int (ixOf a.1 (lo1 a.2) : Nat))
abbrev sp_sgIx (K : PySem.W.Frag) : Sp := spF K en_AS pr_AS fn_sgIx
theorem run_sgIx (a : List Nat × Nat) (E : XK) (h : pr_AS a) : Run K E (t_sign_index P w K E) (startE N_sign_index (en_AS a)) (Ends' (fn_sgIx a)) := by
  unfold t_sign_index
  exact run_ret (ev_sidxS (ev_var rfl) (ev_lowS (l := [a.2]) (ev_var rfl) (asc_one h.1) (by show 1 ≤ 5592405; omega)) h.2) rfl
def fn_sgDir (c : Nat) : Out := .ret (.int (dirF c))
abbrev sp_sgDir (K : PySem.W.Frag) : Sp := spF K en_1T (· < 128) fn_sgDir
theorem run_sgDir (c : Nat) (E : XK) (h : c < 128) : Run K E (t_sign_direction P w K E) (startE N_sign_direction (en_1T c)) (Ends' (fn_sgDir c)) := by
  unfold t_sign_direction
  refine q_when (b := decide (c = lo1 c)) ?_ (fun hb => ?_) fun hb => ?_
  · rw [← dec_one]
    exact et_test (ev_op2 (ev_var rfl) (ev_lowS (l := [c]) (ev_var rfl) (asc_one h) (by show 1 ≤ 5592405; omega)) o_eqSs)
  · refine run_ret ev_int ?_
    show fn_sgDir c = Out.ret _
    unfold fn_sgDir dirF
    rw [if_pos (of_decide_eq_true hb)]
  · refine run_ret (ev_neg ev_int) ?_
    show fn_sgDir c = Out.ret _
    unfold fn_sgDir dirF
    rw [if_neg (of_decide_eq_false hb)]
/-! ### numbering by first appearance -/
section num
variable {β : Type} [DecidableEq β]
def ixB (v : β) (l : List β) : Nat := l.findIdx fun x => decide (x = v)
def ddF (l : List β) : List β := l.foldl (fun s v => if v ∈ s then s else s ++ [v]) []
theorem ddF_snoc (l : List β) (v : β) : ddF (l ++ [v]) = if v ∈ ddF l then ddF l else ddF l ++ [v] := by
  unfold ddF
  rw [List.foldl_append] <;> rfl
theorem ddF_pre (l m : List β) : ∃ t, ddF (l ++ m) = ddF l ++ t := by
  induction m generalizing l with
  | nil => exact ⟨[], by rw [List.append_nil, List.append_nil]⟩
  | cons v r ih =>
    obtain ⟨t, h⟩ := ih (l ++ [v])
    rw [List.append_assoc] at h
    have e : [v] ++ r = v :: r := rfl
    rw [e] at h
    rw [h, ddF_snoc]
    split
    · exact ⟨t, rfl⟩
    · exact ⟨v :: t, by rw [List.append_assoc] <;> rfl⟩
theorem ddF_mem {l : List β} {v : β} : v ∈ ddF l ↔ v ∈ l := by
  refine snoc_ind (p := fun l => v ∈ ddF l ↔ v ∈ l) (by simp [ddF]) (fun l c ih => ?_) l
  rw [ddF_snoc]
  split
  · next h =>
    rw [List.mem_append, List.mem_singleton, ← ih]
    constructor
    · exact .inl
    · rintro (q | q)
      · exact q
      · rw [q]; exact h
  · rw [List.mem_append, List.mem_append, ih]
theorem ddF_len (l : List β) : (ddF l).length ≤ l.length := by
  refine snoc_ind (p := fun l => (ddF l).length ≤ l.length) (Nat.le_refl _) (fun l c ih => ?_) l
  rw [ddF_snoc]
  split
  · rw [List.length_append]; omega
  · rw [List.length_append, List.length_append]; simp; omega
theorem ixB_app {v : β} {s t : List β} (h : v ∈ s) : ixB v (s ++ t) = ixB v s := by
  unfold ixB
  rw [List.findIdx_append]
  rw [if_pos (List.findIdx_lt_length_of_exists ⟨v, h, by simp⟩)]
theorem ixB_new {v : β} {s : List β} (h : v ∉ s) : ixB v (s ++ [v]) = s.length := by
  unfold ixB
  rw [List.findIdx_append]
  have e : s.findIdx (fun x => decide (x = v)) = s.length := List.findIdx_eq_length.mpr fun x hx => by
    have : ¬ x = v := fun z => h (z ▸ hx)
    exact decide_eq_false this
  rw [e, if_neg (Nat.lt_irrefl _)]
  simp
theorem ixB_inj {v u : β} {s : List β} (hv : v ∈ s) (hu : u ∈ s) (e : ixB v s = ixB u s) : v = u := by
  have l1 : ixB v s < s.length := List.findIdx_lt_length_of_exists ⟨v, hv, by simp⟩
  have l2 : ixB u s < s.length := List.findIdx_lt_length_of_exists ⟨u, hu, by simp⟩
  have e1 : s[ixB v s] = v := of_decide_eq_true (List.findIdx_getElem (p := fun x => decide (x = v)) (w := l1))
  have e2 : s[ixB u s] = u := of_decide_eq_true (List.findIdx_getElem (p := fun x => decide (x = u)) (w := l2))
  rw [← e1, ← e2]
  congr 1
/-- the dict: each value's key and its number -/
def kvG {κ : Type} (key : β → κ) : Nat → List β → List (κ × D)
  | _, [] => []
  | o, v :: r => (key v, .int (o : Nat)) :: kvG key (o + 1) r
theorem kvG_len {κ : Type} (key : β → κ) : ∀ (o : Nat) (s : List β), (kvG key o s).length = s.length
  | _, [] => rfl
  | o, v :: r => congrArg (· + 1) (kvG_len key (o + 1) r)
theorem kvG_snoc {κ : Type} (key : β → κ) : ∀ (o : Nat) (s : List β) (v : β), kvG key o (s ++ [v]) = kvG key o s ++ [(key v, .int ((o + s.length : Nat) : Nat))]
  | o, [], v => rfl
  | o, u :: r, v => by
    show (key u, D.int (o : Nat)) :: kvG key (o + 1) (r ++ [v]) = (key u, D.int (o : Nat)) :: (kvG key (o + 1) r ++ _)
    rw [kvG_snoc, List.length_cons, show o + 1 + r.length = o + (r.length + 1) by omega]
theorem kvG_get {κ : Type} [DecidableEq κ] {key : β → κ} (inj : ∀ a b, key a = key b → a = b) : ∀ (o : Nat) (s : List β) (v : β), gV (kvG key o s) (key v) = if v ∈ s then some (.int ((o + ixB v s : Nat) : Nat)) else none
  | o, [], v => by simp [kvG, gV_nil]
  | o, u :: r, v => by
    show gV ((key u, D.int (o : Nat)) :: kvG key (o + 1) r) (key v) = _
    rw [gV_cons]
    by_cases e : u = v
    · subst e
      rw [if_pos rfl, if_pos (List.mem_cons_self ..)]
      have : ixB u (u :: r) = 0 := by unfold ixB; rw [List.findIdx_cons]; simp
      rw [this] <;> rfl
    · have e2 : ¬ key u = key v := fun z => e (inj _ _ z)
      have e3 : ixB v (u :: r) = ixB v r + 1 := by unfold ixB; rw [List.findIdx_cons]; simp [e]
      rw [if_neg e2, kvG_get inj (o + 1) r v, e3]
      by_cases hm : v ∈ r
      · rw [if_pos hm, if_pos (List.mem_cons_of_mem _ hm), show o + 1 + ixB v r = o + (ixB v r + 1) by omega]
      · rw [if_neg hm, if_neg (fun z => by
          rcases List.mem_cons.mp z with q | q
          · exact e q.symm
          · exact hm q)]
theorem kvG_put {κ : Type} [DecidableEq κ] {key : β → κ} (inj : ∀ a b, key a = key b → a = b) (s : List β) (v : β) (h : v ∉ s) : pV (kvG key 0 s) (key v) (.int ((s.length : Nat) : Nat)) = kvG key 0 (s ++ [v]) := by
  rw [pV_new (by rw [kvG_get inj, if_neg h]), kvG_snoc, Nat.zero_add]
/-- each value's number -/
def numbF (vals : List (List β)) : List (List Nat) := vals.map fun one => one.map fun v => ixB v (ddF vals.flatten)
end num
/-! ### numbered -/
abbrev Tri := Int × Int × Int
abbrev Valu := List Tri
def dTri (t : Tri) : D := .tup [.int t.1, .int t.2.1, .int t.2.2]
def dVal (v : Valu) : D := .tup (v.map dTri)
def nkT (t : Tri) : NestedKey := .tup [.num t.1, .num t.2.1, .num t.2.2]
def ksV (v : Valu) : List NestedKey := v.map nkT
theorem nkT_D (t : Tri) : nkD (nkT t) = dTri t := rfl
theorem key_V (v : Valu) : tKey (ksV v) = dVal v := by
  unfold tKey ksV dVal
  rw [nkD_tup, nkDs_map, List.map_map] <;> rfl
theorem nkT_inj {a b : Tri} (h : nkT a = nkT b) : a = b := by
  obtain ⟨a1, a2, a3⟩ := a
  obtain ⟨b1, b2, b3⟩ := b
  unfold nkT at h
  simp only [NestedKey.tup.injEq, List.cons.injEq, NestedKey.num.injEq, and_true] at h
  obtain ⟨h1, h2, h3⟩ := h
  rw [h1, h2, h3]
theorem ksV_inj {a b : Valu} (h : ksV a = ksV b) : a = b := List.map_inj_right (fun _ _ => nkT_inj) |>.mp h
theorem kV_inj : ∀ a b : Valu, NestedKey.tup (ksV a) = NestedKey.tup (ksV b) → a = b := fun a b h => ksV_inj (NestedKey.tup.inj h)
theorem ksV_depth (v : Valu) : (NestedKey.tup (ksV v)).depth ≤ 8 := by
  have h : ∀ v : Valu, NestedKey.depthAll (ksV v) ≤ 3 := fun v => by
    induction v with
    | nil => simp [ksV, NestedKey.depthAll]
    | cons t r ih =>
      have e : ksV (t :: r) = nkT t :: ksV r := rfl
      rw [e]
      simp only [NestedKey.depthAll]
      have : (nkT t).depth ≤ 3 := by unfold nkT; simp [NestedKey.depth, NestedKey.depthAll]
      omega
  have := h v
  simp only [NestedKey.depth]
  omega
abbrev Vals' := List (List Valu)
def dRow (r : List Nat) : D := .tup (r.map fun i => .int (i : Nat))
def dRows (rs : List (List Nat)) : D := .tup (rs.map dRow)
def en_numb (vs : Vals') : List D := [.lst (vs.map fun one => .lst (one.map dVal))]
def pr_numb (vs : Vals') : Prop := vs.flatten.length ≤ 1000000 ∧ vs.length ≤ 1000000
def fn_numb (vs : Vals') : Out := .ret (dRows (numbF vs))
abbrev sp_numb (K : PySem.W.Frag) : Sp := spF K en_numb pr_numb fn_numb
abbrev mnN (P : Program) (w : World) (s : List Valu) : Option S := some (.mn P w (kvG (fun v => NestedKey.tup (ksV v)) 0 s))
theorem run_numb (vs : Vals') (E : XK) (h : pr_numb vs) : Run K E (t_numbered P w K E) (startE N_numbered (en_numb vs)) (Ends' (fn_numb vs)) := by
  obtain ⟨h1, h2⟩ := h
  unfold t_numbered
  let all := ddF vs.flatten
  let nm : Valu → D := fun v => .int ((ixB v all : Nat) : Nat)
  refine q_newN ?_
  refine q_newL ea_nil (by decide) ?_
  refine run_seq ?_
  refine run_for (enc := fun one : List Valu => .lst (one.map dVal)) (as := vs) (fun pre => [some (.im (.lst (vs.map fun one => .lst (one.map dVal)))), mnN P w (ddF pre.flatten), some (.ml (pre.map fun one => .tup (one.map nm))), none, none, none]) (fun _ => True) (ei_list (ev_var rfl)) (by walk_at "sym leT") trivial (fun pre one post hs _ => ?_) (fun _ => ?_)
  · refine ⟨_, eg_name, ?_⟩
    refine q_newL ea_nil (by decide) ?_
    have hflat : vs.flatten = pre.flatten ++ (one ++ post.flatten) := by rw [hs, List.flatten_append, List.flatten_cons]
    have hlen : pre.flatten.length + one.length ≤ 1000000 := by
      rw [hflat] at h1
      simp only [List.length_append] at h1
      omega
    have hpl : pre.length < 1000000 := by
      have e := congrArg List.length hs
      rw [List.length_append, List.length_cons] at e
      omega
    refine run_seq ?_
    refine run_for (enc := dVal) (as := one) (fun p2 => [some (.im (.lst (vs.map fun one => .lst (one.map dVal)))), mnN P w (ddF (pre.flatten ++ p2)), some (.ml (pre.map fun one => .tup (one.map nm))), none, some (.ml (p2.map nm)), none]) (fun _ => True) (ei_list (ev_var rfl)) (by rw [List.append_nil]; walk_at "sym leT") trivial (fun p2 v q2 hs2 _ => ?_) (fun _ => ?_)
    · refine ⟨_, eg_name, ?_⟩
      have hkey : ∀ {ds : Env'}, ds[5]? = some (some (.im (dVal v))) → Ev K (tVar 5) ds (tKey (ksV v)) := fun e => by rw [key_V]; exact ev_var e
      have hp2 : p2.length < one.length := by
        have e := congrArg List.length hs2
        rw [List.length_append, List.length_cons] at e
        omega
      have hdl : (ddF (pre.flatten ++ p2)).length < 16777216 := by
        have := ddF_len (pre.flatten ++ p2)
        rw [List.length_append] at this
        omega
      have hin : v ∈ ddF (pre.flatten ++ p2 ++ [v]) := ddF_mem.mpr (by simp)
      have hnum : nm v = .int ((ixB v (ddF (pre.flatten ++ p2 ++ [v])) : Nat) : Nat) := by
        show D.int ((ixB v (ddF vs.flatten) : Nat) : Nat) = _
        obtain ⟨t, ht⟩ := ddF_pre (pre.flatten ++ p2 ++ [v]) (q2 ++ post.flatten)
        have e : vs.flatten = (pre.flatten ++ p2 ++ [v]) ++ (q2 ++ post.flatten) := by
          rw [hflat, hs2]
          simp only [List.append_assoc, List.cons_append, List.nil_append, List.singleton_append]
        rw [e, ht, ixB_app hin]
      have fin : ∀ {ds : Env'} {Po : Post}, le [some (.im (.lst (vs.map fun one => .lst (one.map dVal)))), mnN P w (ddF (pre.flatten ++ p2 ++ [v])), some (.ml (pre.map fun one => .tup (one.map nm))), none, some (.ml (p2.map nm)), some (.im (dVal v))] ds →
          (∀ ds', le [some (.im (.lst (vs.map fun one => .lst (one.map dVal)))), mnN P w (ddF (pre.flatten ++ (p2 ++ [v]))), some (.ml (pre.map fun one => .tup (one.map nm))), none, some (.ml ((p2 ++ [v]).map nm)), none] ds' ∧ True → Po.nx ds') →
          Run K E (tDrop (tBM K "list" rAppend (tVar 4) (tCons (tIx P w K (tVar 1) (tVar 5)) tNil))) ds Po := fun hl hk => by
        refine Run.le hl ?_
        refine run_append (i := 4) rfl (d := nm v) (ev_getN (i := 1) rfl (hkey rfl) ?_ (ksV_depth v)) (by rw [List.length_map]; omega) ?_
        · rw [kvG_get kV_inj, if_pos hin, Nat.zero_add, hnum]
        · refine hk _ ?_
          rw [List.map_append, ← List.append_assoc]
          exact ⟨by walk_at "sym leT", trivial⟩
      refine q_when (b := !decide (v ∈ ddF (pre.flatten ++ p2))) ?_ (fun hb => ?_) fun hb => ?_
      · refine et_test ((ev_notInN (i := 1) rfl (hkey rfl) (ksV_depth v)).is ?_)
        rw [kvG_get kV_inj]
        by_cases q : v ∈ ddF (pre.flatten ++ p2)
        · rw [if_pos q, decide_eq_true q] <;> rfl
        · rw [if_neg q, decide_eq_false q] <;> rfl
      · have hn : v ∉ ddF (pre.flatten ++ p2) := of_decide_eq_false (not_tt hb)
        refine run_putN (i := 1) rfl (d := .int (((ddF (pre.flatten ++ p2)).length : Nat) : Nat)) ?_ (hkey rfl) (by rw [kvG_len]; exact hdl) ?_ (ksV_depth v)
        · exact (ev_lenN (i := 1) rfl).is (by rw [kvG_len])
        · rw [kvG_put kV_inj _ _ hn]
          refine fin ?_ (fun _ z => z)
          rw [ddF_snoc, if_neg hn]
          walk_at "sym leT"
      · have hn : v ∈ ddF (pre.flatten ++ p2) := of_decide_eq_true (not_ff hb)
        refine fin ?_ (fun _ z => z)
        rw [ddF_snoc, if_pos hn]
        walk_at "sym leT"
    · refine run_freeze 4 rfl ?_
      refine run_append (i := 2) rfl (d := .tup (one.map nm)) (ev_cb (ea_cons (ev_var rfl) ea_nil) c_tupL) (by rw [List.length_map]; omega) ?_
      rw [List.flatten_append, List.map_append, show [one].flatten = one by simp]
      exact ⟨by walk_at "sym leT", trivial⟩
  · refine run_freeze 2 rfl (run_ret (ev_cb (ea_cons (ev_var rfl) ea_nil) c_tupL) ?_)
    show fn_numb vs = Out.ret _
    unfold fn_numb dRows numbF dRow
    rw [List.map_map]
    congr 2
    apply List.map_congr_left
    intro one _
    show D.tup _ = D.tup _
    rw [List.map_map] <;> rfl
end
end Tw

/-! ComE: a printed list of ((a, b), c) tells the list. -/
namespace Tw
open PySem PySem.Spec PyProof.Rows L2 Sym
def iL (i : Int) : List Nat := TL.tl (Str.ofString (toString i))
theorem iL_nat (n : Nat) : iL (n : Int) = TL.numL n := TL.tl_num n
theorem iL_neg (m : Nat) : iL (Int.negSucc m) = 45 :: TL.numL (m + 1) := by
  have h := TL.tl_num (m + 1)
  have e : toString (Int.negSucc m) = "-" ++ toString (((m + 1 : Nat)) : Int) := rfl
  unfold iL
  rw [e, TL.tl_ofString, String.toList_append, List.map_append]
  rw [TL.tl_ofString] at h
  rw [h] <;> rfl
def isN (c : Nat) : Bool := decide (c = 45) || (decide (48 ≤ c) && decide (c ≤ 57))
theorem numL_isN (n : Nat) : ∀ c ∈ TL.numL n, isN c = true := fun c hc => by
  have h := TL.numL_digits n c hc
  unfold isN
  have h1 : 48 ≤ c := by omega
  have h2 : c ≤ 57 := by omega
  simp [h1, h2]
theorem iL_isN (i : Int) : ∀ c ∈ iL i, isN c = true := by
  cases i with
  | ofNat n => rw [show iL (Int.ofNat n) = TL.numL n from iL_nat n]; exact numL_isN n
  | negSucc m =>
    rw [iL_neg]
    intro c hc
    rcases List.mem_cons.mp hc with e | e
    · rw [e]; decide
    · exact numL_isN _ c e
theorem iL_ne (i : Int) : iL i ≠ [] := by
  cases i with
  | ofNat n => rw [show iL (Int.ofNat n) = TL.numL n from iL_nat n]; exact TL.numL_ne n
  | negSucc m => rw [iL_neg]; simp
theorem iL_inj {i j : Int} (h : iL i = iL j) : i = j := by
  have no : ∀ (n m : Nat), TL.numL n ≠ 45 :: TL.numL m := fun n m e => by
    have : 45 ∈ TL.numL n := by rw [e]; simp
    have := TL.numL_digits n 45 this
    omega
  cases i with
  | ofNat n =>
    rw [show iL (Int.ofNat n) = TL.numL n from iL_nat n] at h
    cases j with
    | ofNat m =>
      rw [show iL (Int.ofNat m) = TL.numL m from iL_nat m] at h
      rw [TL.numL_inj h]
    | negSucc m => rw [iL_neg] at h; exact absurd h (no _ _)
  | negSucc n =>
    rw [iL_neg] at h
    cases j with
    | ofNat m => rw [show iL (Int.ofNat m) = TL.numL m from iL_nat m] at h; exact absurd h.symm (no _ _)
    | negSucc m =>
      rw [iL_neg] at h
      have := TL.numL_inj (List.cons.inj h).2
      rw [show n = m by omega]
theorem iL_len {i : Int} (h : i.natAbs < 10 ^ 9) : (iL i).length ≤ 10 := by
  cases i with
  | ofNat n =>
    rw [show iL (Int.ofNat n) = TL.numL n from iL_nat n]
    have := TL.numL_len (n := n) (k := 9) (by decide) (by simpa using h)
    omega
  | negSucc m =>
    rw [iL_neg]
    have := TL.numL_len (n := m + 1) (k := 9) (by decide) (by simpa using h)
    rw [List.length_cons]
    omega
/-- the runs of number signs -/
def runs : List Nat → List Nat → List (List Nat)
  | acc, [] => if acc = [] then [] else [acc]
  | acc, c :: r => if isN c = true then runs (acc ++ [c]) r else if acc = [] then runs [] r else acc :: runs [] r
theorem runs_num : ∀ (l acc : List Nat) (c : Nat) (r : List Nat), (∀ x ∈ l, isN x = true) → isN c = false → runs acc (l ++ c :: r) = if acc ++ l = [] then runs [] r else (acc ++ l) :: runs [] r
  | [], acc, c, r, _, hc => by
    rw [List.nil_append, List.append_nil]
    show (if isN c = true then _ else _) = _
    rw [if_neg (by rw [hc]; decide)]
  | x :: l, acc, c, r, hl, hc => by
    show (if isN x = true then runs (acc ++ [x]) (l ++ c :: r) else _) = _
    rw [if_pos (hl x (List.mem_cons_self ..)), runs_num l (acc ++ [x]) c r (fun y hy => hl y (List.mem_cons_of_mem _ hy)) hc, List.append_assoc] <;> rfl
theorem runs_int (i : Int) (c : Nat) (r : List Nat) (hc : isN c = false) : runs [] (iL i ++ c :: r) = iL i :: runs [] r := by
  rw [runs_num (iL i) [] c r (iL_isN i) hc, List.nil_append, if_neg (iL_ne i)]
theorem runs_skip (c : Nat) (r : List Nat) (hc : isN c = false) : runs [] (c :: r) = runs [] r := by
  show (if isN c = true then _ else _) = _
  rw [if_neg (by rw [hc]; decide)] <;> rfl
def eL (t : Tri) : List Nat := [40, 40] ++ iL t.1 ++ [44, 32] ++ iL t.2.1 ++ [41, 44, 32] ++ iL t.2.2 ++ [41]
theorem runs_e (t : Tri) (r : List Nat) : runs [] (eL t ++ r) = iL t.1 :: iL t.2.1 :: iL t.2.2 :: runs [] r := by
  unfold eL
  simp only [List.append_assoc, List.cons_append, List.nil_append, List.singleton_append]
  rw [runs_skip 40 _ (by decide), runs_skip 40 _ (by decide), runs_int _ 44 _ (by decide), runs_skip 32 _ (by decide), runs_int _ 41 _ (by decide), runs_skip 44 _ (by decide), runs_skip 32 _ (by decide), runs_int _ 41 _ (by decide)]
def bodyL : List Tri → List Nat
  | [] => []
  | [t] => eL t
  | t :: u :: r => eL t ++ ([44, 32] ++ bodyL (u :: r))
def flatL (v : List Tri) : List (List Nat) := v.flatMap fun t => [iL t.1, iL t.2.1, iL t.2.2]
theorem runs_body : ∀ (v : List Tri) (r : List Nat), runs [] (bodyL v ++ r) = flatL v ++ runs [] r
  | [], r => rfl
  | [t], r => runs_e t r
  | t :: u :: v, r => by
    show runs [] ((eL t ++ ([44, 32] ++ bodyL (u :: v))) ++ r) = _
    simp only [List.append_assoc, List.cons_append, List.nil_append]
    rw [runs_e, runs_skip 44 _ (by decide), runs_skip 32 _ (by decide), runs_body (u :: v) r] <;> rfl
theorem flatL_inj : ∀ {v u : List Tri}, flatL v = flatL u → v = u
  | [], [], _ => rfl
  | [], t :: u, h => by cases h
  | t :: v, [], h => by cases h
  | t :: v, s :: u, h => by
    have h' : iL t.1 :: iL t.2.1 :: iL t.2.2 :: flatL v = iL s.1 :: iL s.2.1 :: iL s.2.2 :: flatL u := h
    simp only [List.cons.injEq] at h'
    obtain ⟨h1, h2, h3, h4⟩ := h'
    rw [flatL_inj h4]
    congr 1
    exact Prod.ext (iL_inj h1) (Prod.ext (iL_inj h2) (iL_inj h3))
def txtL (v : List Tri) : List Nat := [91] ++ bodyL v ++ [93]
theorem txtL_inj {v u : List Tri} (h : txtL v = txtL u) : v = u := by
  have e := congrArg (runs []) h
  unfold txtL at e
  simp only [List.append_assoc, List.cons_append, List.nil_append] at e
  rw [runs_skip 91 _ (by decide), runs_skip 91 _ (by decide), runs_body, runs_body, runs_skip 93 _ (by decide)] at e
  exact flatL_inj (List.append_cancel_right e)
theorem txtL_len : ∀ {v : List Tri}, (∀ t ∈ v, t.1.natAbs < 10 ^ 9 ∧ t.2.1.natAbs < 10 ^ 9 ∧ t.2.2.natAbs < 10 ^ 9) → (txtL v).length ≤ 2 + 50 * v.length := fun {v} h => by
  have key : ∀ v : List Tri, (∀ t ∈ v, t.1.natAbs < 10 ^ 9 ∧ t.2.1.natAbs < 10 ^ 9 ∧ t.2.2.natAbs < 10 ^ 9) → (bodyL v).length ≤ 50 * v.length := by
    intro v
    induction v with
    | nil => intro _; simp [bodyL]
    | cons t r ih =>
      intro h
      have he : (eL t).length ≤ 38 := by
        obtain ⟨h1, h2, h3⟩ := h t (List.mem_cons_self ..)
        have l1 := iL_len h1
        have l2 := iL_len h2
        have l3 := iL_len h3
        unfold eL
        simp only [List.length_append, List.length_cons, List.length_nil]
        omega
      have ih' := ih fun t ht => h t (List.mem_cons_of_mem _ ht)
      cases r with
      | nil => show (eL t).length ≤ 50 * 1; omega
      | cons u r =>
        show (eL t ++ ([44, 32] ++ bodyL (u :: r))).length ≤ 50 * ((u :: r).length + 1)
        simp only [List.length_append, List.length_cons, List.length_nil] at ih' ⊢
        omega
  have := key v h
  unfold txtL
  simp only [List.length_append, List.length_cons, List.length_nil]
  omega
/-! ### the printed text -/
def pyT (t : Tri) : PyData := .tuple [.tuple [.int t.1, .int t.2.1], .int t.2.2]
theorem tl_lit (s : String) : TL.tl ((s : String) : Str) = s.toList.map Char.toNat := TL.tl_ofString s
theorem tl_pyT (t : Tri) : TL.tl (PyData.shown (pyT t)) = eL t := by
  show TL.tl (("(" : Str) ++ Str.join ", " [("(" : Str) ++ Str.join ", " [Str.ofString (toString t.1), Str.ofString (toString t.2.1)] ++ ((")" : String) : Str), Str.ofString (toString t.2.2)] ++ ((")" : String) : Str)) = _
  simp only [Str.join, TL.tl_append]
  show _ = [40, 40] ++ iL t.1 ++ [44, 32] ++ iL t.2.1 ++ [41, 44, 32] ++ iL t.2.2 ++ [41]
  have a1 : TL.tl ("(" : Str) = [40] := by decide
  have a2 : TL.tl (", " : Str) = [44, 32] := by decide
  have a3 : TL.tl (")" : Str) = [41] := by decide
  rw [a1, a2, a3]
  unfold iL
  simp only [List.append_assoc, List.cons_append, List.nil_append, List.singleton_append]
theorem tl_textFrom : ∀ (v : List Tri) (k : Nat) (acc : Str), TL.tl (textFrom k acc (v.map fun t => PyData.shown (pyT t))) = TL.tl acc ++ (if 0 < k ∧ v ≠ [] then [44, 32] else []) ++ bodyL v
  | [], k, acc => by
    show TL.tl acc = _
    simp [bodyL]
  | t :: r, k, acc => by
    show TL.tl (textFrom (k + 1) (acc ++ (if k > 0 then ", " else "" : String) ++ PyData.shown (pyT t)) (r.map fun t => PyData.shown (pyT t))) = _
    rw [tl_textFrom r (k + 1), TL.tl_append, TL.tl_append, tl_pyT]
    have a2 : TL.tl ((if k > 0 then ", " else "" : String) : Str) = if 0 < k ∧ t :: r ≠ [] then [44, 32] else [] := by
      have hne : t :: r ≠ [] := by simp
      by_cases h : 0 < k
      · have e : (if k > 0 then ", " else "" : String) = ", " := if_pos h
        have e2 : (if 0 < k ∧ t :: r ≠ [] then [44, 32] else ([] : List Nat)) = [44, 32] := if_pos (And.intro h hne)
        rw [e, e2]
        decide
      · have e : (if k > 0 then ", " else "" : String) = "" := if_neg h
        have e2 : (if 0 < k ∧ t :: r ≠ [] then [44, 32] else ([] : List Nat)) = [] := if_neg (fun z => h z.1)
        rw [e, e2]
        decide
    rw [a2]
    cases r with
    | nil => simp [bodyL]
    | cons u r =>
      rw [if_pos (show 0 < k + 1 ∧ u :: r ≠ [] from ⟨by omega, by simp⟩)]
      show _ = TL.tl acc ++ _ ++ (eL t ++ ([44, 32] ++ bodyL (u :: r)))
      simp only [List.append_assoc]
theorem shownAll_map : ∀ v : List Tri, PyData.shownAll (v.map pyT) = v.map fun t => PyData.shown (pyT t)
  | [] => rfl
  | t :: r => congrArg (PyData.shown (pyT t) :: ·) (shownAll_map r)
theorem tl_shown (v : List Tri) : PyData.shown (.list (v.map pyT)) = S' (txtL v) := by
  refine TL.ext_tl ?_
  show TL.tl (textFrom 0 "[" (PyData.shownAll (v.map pyT)) ++ ("]" : Str)) = txtL v
  rw [shownAll_map, TL.tl_append, tl_textFrom]
  have a1 : TL.tl ("[" : Str) = [91] := by decide
  have a2 : TL.tl ("]" : Str) = [93] := by decide
  rw [a1, a2]
  unfold txtL
  simp
end Tw

/-! ComF: roads, counts along a word, classes. -/
namespace Tw
open PySem PySem.Spec PyProof.Rows L2 Sym
section
variable {P : Program} {w : World} {K : PySem.W.Frag}
/-- the word's signs belong to the alphabet -/
def Sgn (al l : List Nat) : Prop := ∀ c ∈ l, c < 128 ∧ lo1 c ∈ al
def roadF (al l : List Nat) (r : List Nat) (p : Nat) : Int × Int :=
  if dirF (l.getD p 0) = 1 then ((r.getD p 0 : Nat), (ixOf al (lo1 (l.getD p 0)) : Nat)) else ((r.getD (p + 1) 0 : Nat), (ixOf al (lo1 (l.getD p 0)) : Nat))
structure RIn where
  al : List Nat
  l : List Nat
  r : List Nat
  p : Nat
def en_road (a : RIn) : List D := [dT a.al, dT a.l, dRow a.r, .int (a.p : Nat)]
def pr_road (a : RIn) : Prop := Sgn a.al a.l ∧ a.r.length = a.l.length + 1 ∧ a.p < a.l.length ∧ a.l.length ≤ 100000
def fn_road (a : RIn) : Out := .ret (dPair (roadF a.al a.l a.r a.p))
abbrev sp_road (K : PySem.W.Frag) : Sp := spF K en_road pr_road fn_road
theorem row_at {r : List Nat} {i : Nat} (h : i < r.length) : atI (r.map fun i => D.int (i : Nat)) (i : Nat) = some (.int (r.getD i 0 : Nat)) := by
  refine atI_of ?_
  rw [List.getElem?_map, List.getElem?_eq_getElem h, List.getD_eq_getElem?_getD, List.getElem?_eq_getElem h] <;> rfl
theorem word_at {l : List Nat} {i : Nat} (h : i < l.length) : atI l (i : Nat) = some (l.getD i 0) := by
  refine atI_of ?_
  rw [List.getElem?_eq_getElem h, List.getD_eq_getElem?_getD, List.getElem?_eq_getElem h] <;> rfl
theorem getD_mem {l : List Nat} {i : Nat} (h : i < l.length) : l.getD i 0 ∈ l := by
  rw [List.getD_eq_getElem?_getD, List.getElem?_eq_getElem h]
  exact List.getElem_mem h
theorem run_road (a : RIn) (E : XK) (h : pr_road a) : Run K E (t_road_of P w K E (sp_sgDir K) (sp_sgIx K)) (startE N_road_of (en_road a)) (Ends' (fn_road a)) := by
  obtain ⟨al, l, r, p⟩ := a
  obtain ⟨h1, h2, h3, h4⟩ := h
  dsimp only at h1 h2 h3 h4
  unfold t_road_of
  have hc := h1 _ (getD_mem h3)
  have hw : ∀ {ds : Env'}, ds[1]? = some (some (.im (dT l))) → ds[3]? = some (some (.im (.int (p : Nat)))) → Ev K (tIx P w K (tVar 1) (tVar 3)) ds (dT [l.getD p 0]) := fun e1 e2 => ev_ix (ev_var e1) (ev_var e2) (o_ixSs (by omega) (word_at h3))
  refine q_asg (d := .int (ixOf al (lo1 (l.getD p 0)) : Nat)) (ev_call (enc := en_AS) (pre := pr_AS) (f := fn_sgIx) (al, l.getD p 0) (ea_cons (ev_var rfl) (ea_cons (hw rfl rfl) ea_nil)) hc rfl) ?_
  refine q_when (b := decide (dirF (l.getD p 0) = 1)) (et_test (ev_op2 (ev_call (enc := en_1T) (pre := (· < 128)) (f := fn_sgDir) (l.getD p 0) (ea_cons (hw rfl rfl) ea_nil) hc.1 rfl) ev_int o_eqI)) (fun hb => ?_) fun hb => ?_
  · refine run_ret (d := dPair ((r.getD p 0 : Nat), (ixOf al (lo1 (l.getD p 0)) : Nat))) (ev_tup (ea_cons (ev_ix (ev_var rfl) (ev_var rfl) (o_ixT (row_at (r := r) (i := p) (show p < r.length by omega)))) (ea_cons (ev_var rfl) ea_nil)) (by show 2 ≤ _; omega)) ?_
    show fn_road ⟨al, l, r, p⟩ = Out.ret _
    unfold fn_road roadF
    dsimp only
    rw [if_pos (of_decide_eq_true hb)]
  · refine run_ret (d := dPair ((r.getD (p + 1) 0 : Nat), (ixOf al (lo1 (l.getD p 0)) : Nat))) (ev_tup (ea_cons (ev_ix (ev_var rfl) (ev_op2 (ev_var rfl) ev_int o_addI) (o_ixT (row_at (r := r) (i := p + 1) (show p + 1 < r.length by omega)))) (ea_cons (ev_var rfl) ea_nil)) (by show 2 ≤ _; omega)) ?_
    show fn_road ⟨al, l, r, p⟩ = Out.ret _
    unfold fn_road roadF
    dsimp only
    rw [if_neg (of_decide_eq_false hb)]
/-! ### counts -/
abbrev Road := Int × Int
abbrev Cnt := List (Road × Int)
def stepF (al l r : List Nat) (p : Nat) : Road × Int := (roadF al l r p, dirF (l.getD p 0))
def addC (c : Cnt) (s : Road × Int) : Cnt := pV c s.1 ((gV c s.1).getD 0 + s.2)
def cntF (st : List (Road × Int)) : Cnt := st.foldl addC []
theorem cntF_snoc (st : List (Road × Int)) (s : Road × Int) : cntF (st ++ [s]) = addC (cntF st) s := by
  unfold cntF
  rw [List.foldl_append] <;> rfl
def kvC (c : Cnt) : List (NestedKey × D) := c.map fun e => (pairK e.1, .int e.2)
theorem pairK_inj {a b : Road} (h : pairK a = pairK b) : a = b := by
  obtain ⟨a1, a2⟩ := a
  obtain ⟨b1, b2⟩ := b
  unfold pairK at h
  simp only [NestedKey.tup.injEq, List.cons.injEq, NestedKey.num.injEq, and_true] at h
  rw [h.1, h.2]
theorem kvC_get (c : Cnt) (k : Road) : gV (kvC c) (pairK k) = (gV c k).map D.int := by
  induction c with
  | nil => rfl
  | cons e r ih =>
    show gV ((pairK e.1, D.int e.2) :: kvC r) (pairK k) = _
    rw [gV_cons, gV_cons, ih]
    by_cases h : e.1 = k
    · rw [if_pos h, if_pos (by rw [h])] <;> rfl
    · rw [if_neg h, if_neg (fun z => h (pairK_inj z))]
theorem kvC_any (c : Cnt) (k : Road) : ((kvC c).any fun kv => decide (kv.1 = pairK k)) = (c.any fun kv => decide (kv.1 = k)) := by
  rw [gV_any, gV_any, kvC_get, Option.isSome_map]
theorem kvC_put (c : Cnt) (k : Road) (n : Int) : pV (kvC c) (pairK k) (.int n) = kvC (pV c k n) := by
  unfold pV
  rw [kvC_any]
  split
  · unfold kvC
    rw [List.map_map, List.map_map]
    apply List.map_congr_left
    intro e _
    show (if (pairK e.1) = pairK k then (pairK e.1, D.int n) else (pairK e.1, D.int e.2)) = (fun e : Road × Int => (pairK e.1, D.int e.2)) (if e.1 = k then (e.1, n) else e)
    by_cases h : e.1 = k
    · rw [if_pos h, if_pos (by rw [h])]
    · rw [if_neg h, if_neg (fun z => h (pairK_inj z))]
  · unfold kvC
    rw [List.map_append] <;> rfl
theorem kvC_keys (c : Cnt) : (kvC c).map (·.1) = (c.map (·.1)).map pairK := by
  unfold kvC
  rw [List.map_map, List.map_map] <;> rfl
theorem addC_len (c : Cnt) (s : Road × Int) : (addC c s).length ≤ c.length + 1 := pV_len _ _ _
theorem cntF_len (st : List (Road × Int)) : (cntF st).length ≤ st.length := by
  refine snoc_ind (p := fun st => (cntF st).length ≤ st.length) (Nat.le_refl _) (fun st s ih => ?_) st
  rw [cntF_snoc, List.length_append]
  have := addC_len (cntF st) s
  show _ ≤ st.length + 1
  omega
def cAt (c : Cnt) (k : Road) : Int := (gV c k).getD 0
/-- the counts that are not naught, by their roads' order -/
def valF (c : Cnt) : Valu := ((sortP (c.map (·.1))).filter fun k => !decide (cAt c k = 0)).map fun k => (k.1, k.2, cAt c k)
def stepsF (al l r : List Nat) : List (Road × Int) := (List.range l.length).map (stepF al l r)
def alongF (al l r : List Nat) : List Valu := (List.range (l.length + 1)).map fun p => valF (cntF ((stepsF al l r).take p))
structure AIn where
  al : List Nat
  l : List Nat
  r : List Nat
def en_along (a : AIn) : List D := [dT a.al, dT a.l, dRow a.r]
def pr_along (a : AIn) : Prop := Sgn a.al a.l ∧ a.r.length = a.l.length + 1 ∧ a.l.length ≤ 100000
def fn_along (a : AIn) : Out := .ret (.lst ((alongF a.al a.l a.r).map dVal))
abbrev sp_along (K : PySem.W.Frag) : Sp := spF K en_along pr_along fn_along
theorem stepsF_take (al l r : List Nat) (p : Nat) (h : p < l.length) : (stepsF al l r).take (p + 1) = (stepsF al l r).take p ++ [stepF al l r p] := by
  unfold stepsF
  rw [← List.map_take, ← List.map_take, List.take_range, List.take_range, Nat.min_eq_left (by omega), Nat.min_eq_left (by omega), List.range_succ, List.map_append] <;> rfl
theorem stepsF_len (al l r : List Nat) : (stepsF al l r).length = l.length := by unfold stepsF; simp
theorem enum_words (l : List Nat) : enumD (l.map sgn) = (List.range l.length).map fun i => .tup [.int (i : Nat), dT [l.getD i 0]] := by
  unfold enumD
  apply List.ext_getElem?
  intro i
  rw [List.getElem?_map, List.getElem?_map]
  by_cases h : i < l.length
  · have e : ((List.range (l.map sgn).length).zip (l.map sgn))[i]? = some (i, sgn (l.getD i 0)) := by
      rw [List.getElem?_zip_eq_some]
      refine ⟨by rw [List.length_map, List.getElem?_range h], ?_⟩
      rw [List.getElem?_map, List.getElem?_eq_getElem h, List.getD_eq_getElem?_getD, List.getElem?_eq_getElem h] <;> rfl
    rw [e, List.getElem?_range h] <;> rfl
  · rw [List.getElem?_eq_none (by rw [List.length_zip, List.length_range, List.length_map]; omega), List.getElem?_eq_none (by rw [List.length_range]; omega)] <;> rfl
theorem valF_nil : valF [] = [] := by
  unfold valF sortP
  rw [List.map_nil, List.mergeSort_nil] <;> rfl
theorem sortP_mem {ks : List Road} {k : Road} : k ∈ sortP ks ↔ k ∈ ks := (sortP_perm ks).mem_iff
theorem cAt_some {c : Cnt} {k : Road} (h : k ∈ c.map (·.1)) : gV c k = some (cAt c k) := by
  unfold cAt
  cases q : gV c k with
  | some x => rfl
  | none => exact absurd h (gV_none.mp q)
/-- the comprehension over sorted(counts) -/
theorem ev_counts {ds : Env'} {i j : Nat} {c : Cnt} {te : TE} {e : Road → D} (hi : ds[i]? = some (some (.mn P w (kvC c)))) (hij : i ≠ j) (hj : j < ds.length) (hl : c.length ≤ 16777216)
    (he : ∀ k ∈ c.map (·.1), ∀ ds2, ds2[i]? = some (some (.mn P w (kvC c))) → ds2[j]? = some (some (.im (dPair k))) → Ev K te ds2 (e k)) :
    Ev K (tLc (iAny K (tCB (gSorted P w K) (tCons (tVar i) tNil))) (gName j) (tTest (tOp (gNe K) (tIx P w K (tVar i) (tVar j)) (tC (V.int 0)))) te [j]) ds (.lst (((sortP (c.map (·.1))).filter fun k => !decide (cAt c k = 0)).map e)) := by
  have hlen : (sortP (c.map (·.1))).length = c.length := by rw [(sortP_perm _).length_eq, List.length_map]
  refine ev_lc (enc := dPair) (as := sortP (c.map (·.1))) (fun k => !decide (cAt c k = 0)) e (ei_list (ev_sortN (c.map (·.1)) hi (kvC_keys c))) (by omega) fun pre k post hs => ?_
  have hk : k ∈ c.map (·.1) := sortP_mem.mp (by rw [hs]; simp)
  have g1 : ((wipeD ds [j]).set j (some (.im (dPair k))))[i]? = some (some (.mn P w (kvC c))) := by
    rw [List.getElem?_set_ne (Ne.symm hij)]
    show ((ds.set j none))[i]? = _
    rw [List.getElem?_set_ne (Ne.symm hij)]
    exact hi
  have g2 : ((wipeD ds [j]).set j (some (.im (dPair k))))[j]? = some (some (.im (dPair k))) := List.getElem?_set_self (by rw [wipeD_length]; exact hj)
  refine ⟨_, gw_name (by simp), et_test (ev_op2 (ev_getN (i := i) (ks := [.num k.1, .num k.2]) (d := .int (cAt c k)) g1 (ev_var g2) ?_ (by simp [NestedKey.depth, NestedKey.depthAll])) ev_int o_neI), fun _ => he k hk _ g1 g2⟩
  show gV (kvC c) (pairK k) = _
  rw [kvC_get, cAt_some hk] <;> rfl
theorem run_along (a : AIn) (E : XK) (h : pr_along a) : Run K E (t_counts_along P w K E (sp_sgDir K) (sp_road K)) (startE N_counts_along (en_along a)) (Ends' (fn_along a)) := by
  obtain ⟨al, l, r⟩ := a
  obtain ⟨h1, h2, h4⟩ := h
  dsimp only at h1 h2 h4
  unfold t_counts_along
  refine q_newN ?_
  refine q_newL (xs := [dVal []]) (ea_cons (ev_tup ea_nil (by decide)) ea_nil) (by decide) ?_
  refine run_seq ?_
  let cn : Nat → Cnt := fun p => cntF ((stepsF al l r).take p)
  have hit : EvI K (iEnumG K (tCons (tVar 1) tNil)) (List.set (List.set (startE N_counts_along (en_along ⟨al, l, r⟩)) 3 (some (.mn P w []))) 4 (some (.ml [dVal []]))) ((List.range l.length).map fun i => .tup [.int (i : Nat), dT [l.getD i 0]]) := by
    rw [← enum_words]
    exact ei_enum (ea_cons (ev_var rfl) ea_nil) rfl
  refine run_for (enc := fun i : Nat => .tup [.int (i : Nat), dT [l.getD i 0]]) (as := List.range l.length) (fun pre => [some (.im (dT al)), some (.im (dT l)), some (.im (dRow r)), some (.mn P w (kvC (cn pre.length))), some (.ml (((List.range (pre.length + 1)).map fun p => valF (cn p)).map dVal)), none, none, none, none]) (fun _ => True) hit (by
    show le [_, _, _, _, some (.ml (([0].map fun p => valF (cn p)).map dVal)), _, _, _, _] _
    rw [show ([0].map fun p => valF (cn p)) = [[]] by show [valF (cn 0)] = _; rw [show cn 0 = [] by rfl, valF_nil]]
    walk_at "sym leT") trivial (fun pre p post hs _ => ?_) (fun _ => ?_)
  · obtain ⟨rfl, hp⟩ := range_split hs
    rw [List.length_append, List.length_range]
    have hc := h1 _ (getD_mem hp)
    have hcl : (cn p).length ≤ p := by
      have := cntF_len ((stepsF al l r).take p)
      rw [List.length_take, stepsF_len] at this
      show (cntF _).length ≤ p
      omega
    refine ⟨_, eg_tup2, ?_⟩
    refine q_asg (d := dPair (roadF al l r p)) (ev_call (enc := en_road) (pre := pr_road) (f := fn_road) ⟨al, l, r, p⟩ (ea_cons (ev_var rfl) (ea_cons (ev_var rfl) (ea_cons (ev_var rfl) (ea_cons (ev_var rfl) ea_nil)))) ⟨h1, h2, hp, h4⟩ rfl) ?_
    refine run_seq ?_
    have hdep : (NestedKey.tup [.num (roadF al l r p).1, .num (roadF al l r p).2]).depth ≤ 8 := by simp [NestedKey.depth, NestedKey.depthAll]
    refine run_putN (i := 3) (ks := [.num (roadF al l r p).1, .num (roadF al l r p).2]) rfl (d := .int (cAt (cn p) (roadF al l r p) + dirF (l.getD p 0))) ?_ (ev_var rfl) (by show (kvC (cn p)).length < _; unfold kvC; rw [List.length_map]; omega) ?_ hdep
    · refine ev_op2 (x := .int (cAt (cn p) (roadF al l r p))) ((ev_get2N (i := 3) (ks := [.num (roadF al l r p).1, .num (roadF al l r p).2]) rfl (ev_var rfl) ev_int hdep).is ?_) (ev_call (enc := en_1T) (pre := (· < 128)) (f := fn_sgDir) (l.getD p 0) (ea_cons (ev_var rfl) ea_nil) hc.1 rfl) o_addI
      show (gV (kvC (cn p)) (pairK (roadF al l r p))).getD _ = _
      rw [kvC_get]
      unfold cAt
      cases gV (cn p) (roadF al l r p) <;> rfl
    · have hcn : pV (kvC (cn p)) (pairK (roadF al l r p)) (.int (cAt (cn p) (roadF al l r p) + dirF (l.getD p 0))) = kvC (cn (p + 1)) := by
        rw [kvC_put]
        show _ = kvC (cntF ((stepsF al l r).take (p + 1)))
        rw [stepsF_take al l r p hp, cntF_snoc] <;> rfl
      show Run K E _ (List.set _ 3 (some (.mn P w (pV (kvC (cn p)) (pairK (roadF al l r p)) _)))) _
      rw [hcn]
      refine run_append (i := 4) (xs := (((List.range (p + 1)).map fun p => valF (cn p)).map dVal)) rfl (d := dVal (valF (cn (p + 1)))) ?_ (by simp; omega) ?_
      · refine ev_cb (ea_cons (ev_counts (i := 3) (j := 8) (c := cn (p + 1)) (e := fun k => dTri (k.1, k.2, cAt (cn (p + 1)) k)) rfl (by decide) (by show 8 < 9; omega) (by
          have := cntF_len ((stepsF al l r).take (p + 1))
          rw [List.length_take, stepsF_len] at this
          show (cntF _).length ≤ _
          omega) fun k hk ds2 g1 g2 => ?_) ea_nil) ?_
        · refine ev_tup (ea_cons (ev_ix (ev_var g2) ev_int (o_ixT rfl)) (ea_cons (ev_ix (ev_var g2) ev_int (o_ixT rfl)) (ea_cons (ev_getN (i := 3) (ks := [.num k.1, .num k.2]) g1 (ev_var g2) ?_ (by simp [NestedKey.depth, NestedKey.depthAll])) ea_nil))) (by show 3 ≤ _; omega)
          show gV (kvC (cn (p + 1))) (pairK k) = _
          rw [kvC_get, cAt_some hk] <;> rfl
        · have := c_tupL (K := K) (xs := (((sortP ((cn (p + 1)).map (·.1))).filter fun k => !decide (cAt (cn (p + 1)) k = 0)).map fun k => dTri (k.1, k.2, cAt (cn (p + 1)) k)))
          unfold dVal valF
          rw [List.map_map]
          exact this
      · rw [show [p].length = 1 by rfl, List.range_succ (n := p + 1), List.map_append, List.map_append]
        exact ⟨by walk_at "sym leT", trivial⟩
  · refine run_retL (i := 4) rfl ?_
    show fn_along ⟨al, l, r⟩ = Out.ret _
    unfold fn_along alongF
    rw [List.length_range]
end
end Tw

/-! ComG: classes by storeys. -/
namespace Tw
open PySem PySem.Spec PyProof.Rows L2 Sym
section
variable {P : Program} {w : World} {K : PySem.W.Frag}
abbrev Rws := List (List Nat)
def valsF (al : List Nat) (ws : List (List Nat)) (rs : Rws) : Vals' := (ws.zip rs).map fun p => alongF al p.1 p.2
def nextF (al : List Nat) (ws : List (List Nat)) (rs : Rws) : Rws := numbF (valsF al ws rs)
def rowsAt (al : List Nat) (ws : List (List Nat)) : Nat → Rws
  | 0 => ws.map fun l => List.replicate (l.length + 1) 0
  | s + 1 => nextF al ws (rowsAt al ws s)
/-- the rows' form -/
def Shape (ws : List (List Nat)) (rs : Rws) : Prop := rs.map (·.length) = ws.map fun l => l.length + 1
theorem alongF_len (al l r : List Nat) : (alongF al l r).length = l.length + 1 := by unfold alongF; simp
theorem Shape.len {ws : List (List Nat)} {rs : Rws} (h : Shape ws rs) : rs.length = ws.length := by
  have := congrArg List.length h
  simpa using this
theorem Shape.get {ws : List (List Nat)} {rs : Rws} (h : Shape ws rs) {i : Nat} {l r : List Nat} (h1 : ws[i]? = some l) (h2 : rs[i]? = some r) : r.length = l.length + 1 := by
  have e := congrArg (fun z => z[i]?) h
  simp only [List.getElem?_map, h1, h2, Option.map_some] at e
  exact Option.some.inj e
theorem Shape.mem {ws : List (List Nat)} {rs : Rws} (h : Shape ws rs) {p : List Nat × List Nat} (hp : p ∈ ws.zip rs) : p.2.length = p.1.length + 1 := by
  obtain ⟨i, hi⟩ := List.mem_iff_getElem?.mp hp
  rw [List.getElem?_zip_eq_some] at hi
  exact h.get hi.1 hi.2
theorem zip_fst : ∀ {ws : List (List Nat)} {rs : Rws}, rs.length = ws.length → (ws.zip rs).map (·.1) = ws
  | [], [], _ => rfl
  | l :: ws, r :: rs, h => by
    rw [List.zip_cons_cons, List.map_cons, zip_fst (Nat.succ.inj h)]
  | [], _ :: _, h => by cases h
  | _ :: _, [], h => by cases h
theorem shape_next {al : List Nat} {ws : List (List Nat)} {rs : Rws} (h : rs.length = ws.length) : Shape ws (nextF al ws rs) := by
  unfold Shape nextF numbF valsF
  rw [List.map_map, List.map_map]
  have e : (ws.zip rs).map ((fun x : List Nat => x.length) ∘ (fun one : List Valu => one.map fun v => ixB v (ddF ((ws.zip rs).map fun p => alongF al p.1 p.2).flatten)) ∘ fun p => alongF al p.1 p.2) = ((ws.zip rs).map (·.1)).map fun l => l.length + 1 := by
    rw [List.map_map]
    apply List.map_congr_left
    intro p _
    show (((alongF al p.1 p.2).map _).length) = p.1.length + 1
    rw [List.length_map, alongF_len]
  rw [zip_fst h] at e
  exact e
theorem shape_at (al : List Nat) (ws : List (List Nat)) : ∀ s, Shape ws (rowsAt al ws s)
  | 0 => by
    show Shape ws (ws.map fun l => List.replicate (l.length + 1) 0)
    unfold Shape
    rw [List.map_map]
    apply List.map_congr_left
    intro l _
    simp
  | s + 1 => shape_next (shape_at al ws s).len
structure NIn where
  al : List Nat
  b : Bool
  ws : List (List Nat)
  rs : Rws
def szF (ws : List (List Nat)) : Nat := (ws.map fun l => l.length + 1).sum
def en_next (a : NIn) : List D := [dT a.al, dSeq a.b (a.ws.map dT), dRows a.rs]
/-- words of the alphabet, not too long -/
structure Wds (al : List Nat) (ws : List (List Nat)) : Prop where
  sg : ∀ l ∈ ws, Sgn al l
  sz : szF ws ≤ 100000
def pr_next (a : NIn) : Prop := Wds a.al a.ws ∧ Shape a.ws a.rs
def fn_next (a : NIn) : Out := .ret (dRows (nextF a.al a.ws a.rs))
abbrev sp_next (K : PySem.W.Frag) : Sp := spF K en_next pr_next fn_next
theorem sz_mem {ws : List (List Nat)} {l : List Nat} (h : l ∈ ws) : l.length + 1 ≤ szF ws := by
  unfold szF
  induction ws with
  | nil => cases h
  | cons m r ih =>
    rw [List.map_cons, List.sum_cons]
    rcases List.mem_cons.mp h with e | e
    · rw [e]; omega
    · have := ih e; omega
theorem sz_len (ws : List (List Nat)) : ws.length ≤ szF ws := by
  unfold szF
  induction ws with
  | nil => exact Nat.le_refl _
  | cons m r ih => rw [List.map_cons, List.sum_cons, List.length_cons]; omega
theorem vals_flat (al : List Nat) : ∀ {ws : List (List Nat)} {rs : Rws}, rs.length = ws.length → (valsF al ws rs).flatten.length = szF ws
  | [], [], _ => rfl
  | l :: ws, r :: rs, h => by
    show ((alongF al l r) ++ (valsF al ws rs).flatten).length = _
    rw [List.length_append, alongF_len, vals_flat al (Nat.succ.inj h)]
    unfold szF
    rw [List.map_cons, List.sum_cons]
  | [], _ :: _, h => by cases h
  | _ :: _, [], h => by cases h
theorem seq_src {b : Bool} {xs : List D} : srcD (dSeq b xs) = some xs := by cases b <;> rfl
theorem zipD_map {α β : Type} (f : α → D) (g : β → D) : ∀ (xs : List α) (ys : List β), zipD (xs.map f) (ys.map g) = (xs.zip ys).map fun p => .tup [f p.1, g p.2]
  | [], _ => rfl
  | _ :: _, [] => rfl
  | x :: xs, y :: ys => congrArg (D.tup [f x, g y] :: ·) (zipD_map f g xs ys)
theorem run_nextc (a : NIn) (E : XK) (h : pr_next a) : Run K E (t_next_classes P w K E (sp_numb K) (sp_along K)) (startE N_next_classes (en_next a)) (Ends' (fn_next a)) := by
  obtain ⟨al, b, ws, rs⟩ := a
  obtain ⟨⟨h1, h2⟩, h3⟩ := h
  dsimp only at h1 h2 h3
  unfold t_next_classes
  have hz : (valsF al ws rs).length ≤ 100000 := by
    unfold valsF
    rw [List.length_map, List.length_zip]
    have := sz_len ws
    omega
  refine run_ret (d := dRows (nextF al ws rs)) (ev_call (enc := en_numb) (pre := pr_numb) (f := fn_numb) (valsF al ws rs) (ea_cons ?_ ea_nil) ⟨by rw [vals_flat al h3.len]; omega, by omega⟩ rfl) rfl
  unfold valsF
  rw [List.map_map]
  refine ev_lc0 (enc := fun p : List Nat × List Nat => .tup [dT p.1, dRow p.2]) (as := ws.zip rs) _ ?_ (by rw [List.length_zip]; have := sz_len ws; omega) fun pre p post hs => ?_
  · have := ei_zip (K := K) (ds := startE N_next_classes (en_next ⟨al, b, ws, rs⟩)) (tr := tCons (tVar 1) (tCons (tVar 2) tNil)) (x := dSeq b (ws.map dT)) (y := dRows rs) (ea_cons (ev_var rfl) (ea_cons (ev_var rfl) ea_nil)) seq_src rfl
    rw [zipD_map] at this
    exact this
  · have hm : p ∈ ws.zip rs := by rw [hs]; simp
    have hw : p.1 ∈ ws := (List.of_mem_zip hm).1
    have hl := sz_mem hw
    exact ⟨_, gw_tup2, ev_call (enc := en_along) (pre := pr_along) (f := fn_along) ⟨al, p.1, p.2⟩ (ea_cons (ev_var rfl) (ea_cons (ev_var rfl) (ea_cons (ev_var rfl) ea_nil))) ⟨h1 _ hw, h3.mem hm, by show p.1.length ≤ _; omega⟩ rfl⟩
structure CIn where
  al : List Nat
  b : Bool
  ws : List (List Nat)
  s : Nat
def en_raw (a : CIn) : List D := [dT a.al, dSeq a.b (a.ws.map dT), .int (a.s : Nat)]
def pr_raw (a : CIn) : Prop := Wds a.al a.ws ∧ a.s ≤ 1000
def fn_raw (a : CIn) : Out := .ret (dRows (rowsAt a.al a.ws a.s))
abbrev sp_raw (K : PySem.W.Frag) : Sp := spF K en_raw pr_raw fn_raw
theorem const_row (n : Nat) : (List.range n).map (fun _ => D.int 0) = (List.replicate n 0).map fun i : Nat => D.int (i : Nat) := by
  rw [List.map_replicate, List.map_const', List.length_range] <;> rfl
theorem run_raw (a : CIn) (E : XK) (h : pr_raw a) : Run K E (t_raw_classes P w K E (sp_next K)) (startE N_raw_classes (en_raw a)) (Ends' (fn_raw a)) := by
  obtain ⟨al, b, ws, s⟩ := a
  obtain ⟨hw, hs⟩ := h
  dsimp only at hw hs
  unfold t_raw_classes
  have hwl := sz_len ws
  have hsz := hw.sz
  refine q_asg (d := dRows (rowsAt al ws 0)) ?_ ?_
  · refine ev_cb (ea_cons (ev_lc0 (enc := dT) (as := ws) (fun l => dRow (List.replicate (l.length + 1) 0)) (ei_seq (ev_var rfl)) (by omega) fun pre l post hs => ?_) ea_nil) ?_
    · have hl := sz_mem (show l ∈ ws by rw [hs]; simp)
      refine ⟨_, gw_name, ?_⟩
      refine ev_cb (ea_cons (ev_lc0 (enc := fun i : Nat => .int (i : Nat)) (as := List.range (l.length + 1)) (fun _ => .int 0) ?_ (by simp; omega) fun pre i post hs => ⟨_, gw_name, ev_int⟩) ea_nil) ?_
      · refine ei_rangeN ?_ (by omega)
        have e : ((l.length + 1 : Nat) : Int) = (l.length : Int) + 1 := by omega
        rw [e]
        exact ev_op2 (ev_cb (ea_cons (ev_var rfl) ea_nil) (c_lenSs (l := l) (by omega))) ev_int o_addI
      · unfold dRow
        rw [← const_row]
        exact c_tupL
    · have := c_tupL (K := K) (xs := ws.map fun l => dRow (List.replicate (l.length + 1) 0))
      unfold dRows rowsAt
      rw [List.map_map]
      exact this
  · refine run_seq ?_
    refine run_for (enc := fun i : Nat => .int (i : Nat)) (as := List.range s) (fun pre => [some (.im (dT al)), some (.im (dSeq b (ws.map dT))), none, some (.im (dRows (rowsAt al ws pre.length))), none, none, none]) (fun _ => True) (ei_rangeN (ev_var rfl) (by omega)) (by walk_at "sym leT") trivial (fun pre i post hs _ => ?_) (fun _ => ?_)
    · refine ⟨_, eg_name, ?_⟩
      refine run_asg (d := dRows (rowsAt al ws (pre.length + 1))) (ev_call (enc := en_next) (pre := pr_next) (f := fn_next) ⟨al, b, ws, rowsAt al ws pre.length⟩ (ea_cons (ev_var rfl) (ea_cons (ev_var rfl) (ea_cons (ev_var rfl) ea_nil))) ⟨hw, shape_at al ws _⟩ rfl) ?_
      rw [List.length_append]
      exact ⟨by walk_at "sym leT", trivial⟩
    · refine run_ret (ev_var rfl) ?_
      show fn_raw ⟨al, b, ws, s⟩ = Out.ret _
      unfold fn_raw
      rw [List.length_range]
def pr_cls (a : CIn) : Prop := Asc a.al ∧ a.al.length ≤ 1000 ∧ a.s ≤ 1000 ∧ (isAlF a.al = true → badF a.al a.ws = none → Wds a.al a.ws)
def fn_cls (C1 C2 : Addr) (a : CIn) : Out := match fn_chWs C1 C2 ⟨a.al, a.b, a.ws⟩ with | .ret _ => fn_raw a | .exc C fs => .exc C fs
abbrev sp_cls (K : PySem.W.Frag) (C1 C2 : Addr) : Sp := spF K en_raw pr_cls (fn_cls C1 C2)
theorem run_cls (C1 C2 : Addr) (a : CIn) (E : XK) (h : pr_cls a) : Run K E (t_classes P w K E (sp_raw K) (sp_chWs K C1 C2)) (startE N_classes (en_raw a)) (Ends' (fn_cls C1 C2 a)) := by
  obtain ⟨al, b, ws, s⟩ := a
  obtain ⟨h1, h2, h3, h4⟩ := h
  dsimp only at h1 h2 h3 h4
  unfold t_classes
  refine run_seq ?_
  refine run_dropX (enc := en_chWs) (pre := pr_chWs) (f := fn_chWs C1 C2) ⟨al, b, ws⟩ (ea_cons (ev_var rfl) (ea_cons (ev_var rfl) ea_nil)) ⟨h1, h2⟩ (fun d hd => ?_) fun C fs he => ?_
  · have hA : isAlF al = true ∧ badF al ws = none := by
      unfold fn_chWs at hd
      split at hd
      · next hA =>
        refine ⟨hA, ?_⟩
        dsimp only at hd
        cases q : badF al ws with
        | none => rfl
        | some l => rw [q] at hd; cases hd
      · cases hd
    refine run_ret (d := dRows (rowsAt al ws s)) (ev_call (enc := en_raw) (pre := pr_raw) (f := fn_raw) ⟨al, b, ws, s⟩ (ea_cons (ev_var rfl) (ea_cons (ev_var rfl) (ea_cons (ev_var rfl) ea_nil))) ⟨h4 hA.1 hA.2, h3⟩ rfl) ?_
    show fn_cls C1 C2 ⟨al, b, ws, s⟩ = Out.ret _
    unfold fn_cls
    dsimp only
    rw [hd] <;> rfl
  · show fn_cls C1 C2 ⟨al, b, ws, s⟩ = Out.exc _ _
    unfold fn_cls
    dsimp only
    rw [he]
end
end Tw

/-! ComH: the law's own classes. -/
namespace Tw
open PySem PySem.Spec PyProof.Rows L2 Sym
/-! ### bounds -/
theorem ixB_lt {β : Type} [DecidableEq β] (v : β) (l : List β) : ixB v l ≤ l.length := List.findIdx_le_length
theorem nextF_lt {al : List Nat} {ws : List (List Nat)} {rs : Rws} (h : rs.length = ws.length) : ∀ r ∈ nextF al ws rs, ∀ i ∈ r, i ≤ szF ws := fun r hr i hi => by
  unfold nextF numbF at hr
  obtain ⟨one, _, rfl⟩ := List.mem_map.mp hr
  obtain ⟨v, _, rfl⟩ := List.mem_map.mp hi
  have h1 := ixB_lt v (ddF (valsF al ws rs).flatten)
  have h2 := ddF_len (valsF al ws rs).flatten
  rw [vals_flat al h] at h2
  omega
theorem rowsAt_lt (al : List Nat) (ws : List (List Nat)) : ∀ s, ∀ r ∈ rowsAt al ws s, ∀ i ∈ r, i ≤ szF ws
  | 0, r, hr, i, hi => by
    have hr' : r ∈ ws.map fun l => List.replicate (l.length + 1) 0 := hr
    obtain ⟨l, _, rfl⟩ := List.mem_map.mp hr'
    rw [(List.mem_replicate.mp hi).2]
    omega
  | s + 1, r, hr, i, hi => nextF_lt (shape_at al ws s).len r hr i hi
theorem addC_keys {c : Cnt} {s : Road × Int} {k : Road} (h : k ∈ (addC c s).map (·.1)) : k ∈ c.map (·.1) ∨ k = s.1 := by
  unfold addC at h
  rw [pV_keys] at h
  split at h
  · exact .inl h
  · simpa using h
theorem cntF_keys : ∀ (st : List (Road × Int)) (k : Road), k ∈ (cntF st).map (·.1) → k ∈ st.map (·.1) := fun st => by
  refine snoc_ind (p := fun st => ∀ k : Road, k ∈ (cntF st).map (·.1) → k ∈ st.map (·.1)) (fun k h => h) (fun st s ih k h => ?_) st
  rw [cntF_snoc] at h
  rw [List.map_append, List.mem_append]
  rcases addC_keys h with h | h
  · exact .inl (ih k h)
  · exact .inr (by rw [h]; simp)
theorem cAt_add (c : Cnt) (s : Road × Int) (k : Road) : cAt (addC c s) k = if k = s.1 then cAt c s.1 + s.2 else cAt c k := by
  unfold cAt addC
  rw [gV_put]
  split <;> rfl
/-- a road's count: the sum of its steps -/
theorem cAt_sum (st : List (Road × Int)) (k : Road) : cAt (cntF st) k = ((st.filter fun s => decide (s.1 = k)).map (·.2)).sum := by
  refine snoc_ind (p := fun st => cAt (cntF st) k = ((st.filter fun s => decide (s.1 = k)).map (·.2)).sum) rfl (fun st s ih => ?_) st
  rw [cntF_snoc, cAt_add, List.filter_append, List.map_append, List.sum_append, ← ih]
  by_cases e : k = s.1
  · subst e
    rw [if_pos rfl]
    simp
  · have e2 : ¬ s.1 = k := fun z => e z.symm
    rw [if_neg e]
    simp [e2]
theorem dirF_one (c : Nat) : dirF c = 1 ∨ dirF c = -1 := by unfold dirF; split <;> simp
theorem steps_dir {al l r : List Nat} : ∀ s ∈ stepsF al l r, s.2 = 1 ∨ s.2 = -1 := fun s hs => by
  unfold stepsF at hs
  obtain ⟨p, _, rfl⟩ := List.mem_map.mp hs
  exact dirF_one _
theorem sum_dir : ∀ (xs : List Int), (∀ x ∈ xs, x = 1 ∨ x = -1) → xs.sum.natAbs ≤ xs.length
  | [], _ => Nat.le_refl _
  | x :: r, h => by
    have ih := sum_dir r fun y hy => h y (List.mem_cons_of_mem _ hy)
    have hx := h x (List.mem_cons_self ..)
    rw [List.sum_cons, List.length_cons]
    omega
theorem cAt_lt {st : List (Road × Int)} (h : ∀ s ∈ st, s.2 = 1 ∨ s.2 = -1) (k : Road) : (cAt (cntF st) k).natAbs ≤ st.length := by
  rw [cAt_sum]
  have := sum_dir ((st.filter fun s => decide (s.1 = k)).map (·.2)) fun x hx => by
    obtain ⟨s, hs, rfl⟩ := List.mem_map.mp hx
    exact h s (List.mem_filter.mp hs).1
  rw [List.length_map] at this
  have l2 := List.length_filter_le (fun s : Road × Int => decide (s.1 = k)) st
  omega
theorem ixOf_le (al : List Nat) (c : Nat) : ixOf al c ≤ al.length := List.findIdx_le_length
theorem getD_le {r : List Nat} {m : Nat} (h : ∀ i ∈ r, i ≤ m) (p : Nat) : r.getD p 0 ≤ m := by
  rw [List.getD_eq_getElem?_getD]
  cases q : r[p]? with
  | none => exact Nat.zero_le _
  | some x => exact h x (List.mem_of_getElem? q)
/-- small numbers -/
def Sml (v : Valu) : Prop := ∀ t ∈ v, t.1.natAbs < 10 ^ 9 ∧ t.2.1.natAbs < 10 ^ 9 ∧ t.2.2.natAbs < 10 ^ 9
theorem val_sml {al l r : List Nat} {m : Nat} (h1 : al.length ≤ 1000) (h2 : l.length ≤ 100000) (h3 : ∀ i ∈ r, i ≤ 100000) (p : Nat) : Sml (valF (cntF ((stepsF al l r).take p))) := fun t ht => by
  unfold valF at ht
  obtain ⟨k, hk, rfl⟩ := List.mem_map.mp ht
  have hk1 := cntF_keys _ _ (sortP_mem.mp (List.mem_filter.mp hk).1)
  obtain ⟨s, hs, rfl⟩ := List.mem_map.mp hk1
  have hs1 := List.mem_of_mem_take hs
  unfold stepsF at hs1
  obtain ⟨q, _, rfl⟩ := List.mem_map.mp hs1
  have c1 := cAt_lt (st := (stepsF al l r).take p) (fun s hs => steps_dir s (List.mem_of_mem_take hs)) (roadF al l r q)
  have l1 : ((stepsF al l r).take p).length ≤ l.length := by rw [List.length_take, stepsF_len]; omega
  have i1 := ixOf_le al (lo1 (l.getD q 0))
  have g1 := getD_le h3 q
  have g2 := getD_le h3 (q + 1)
  refine ⟨?_, ?_, ?_⟩
  · show (roadF al l r q).1.natAbs < _
    unfold roadF
    split
    · show ((r.getD q 0 : Nat) : Int).natAbs < _
      omega
    · show ((r.getD (q + 1) 0 : Nat) : Int).natAbs < _
      omega
  · show (roadF al l r q).2.natAbs < _
    unfold roadF
    split <;> (show ((ixOf al (lo1 (l.getD q 0)) : Nat) : Int).natAbs < _; omega)
  · show (cAt (cntF ((stepsF al l r).take p)) (roadF al l r q)).natAbs < _
    omega
theorem valF_len (c : Cnt) : (valF c).length ≤ c.length := by
  unfold valF
  rw [List.length_map]
  have := List.length_filter_le (fun k => !decide (cAt c k = 0)) (sortP (c.map (·.1)))
  rw [(sortP_perm _).length_eq, List.length_map] at this
  exact this
/-! ### the printed list -/
def dEnt (t : Tri) : D := .tup [dPair (t.1, t.2.1), .int t.2.2]
theorem ent_py (v : Valu) : toPys (v.map dEnt) = v.map pyT := by
  induction v with
  | nil => rfl
  | cons t r ih => show pyT t :: toPys (r.map dEnt) = _; rw [ih] <;> rfl
theorem ent_plain (v : Valu) : plains (v.map dEnt) = true := by
  induction v with
  | nil => rfl
  | cons t r ih => show (plain (dEnt t) && plains (r.map dEnt)) = true; rw [ih] <;> rfl
theorem sml_show {i : Int} (h : i.natAbs < 10 ^ 9) : decide (i.natAbs.log2 < 1920) = true := by
  have h2 : i.natAbs < 2 ^ 30 := by omega
  rcases log2_lt h2 with q | q
  · exact decide_eq_true (by omega)
  · rw [q]; decide
theorem ent_showable : ∀ {v : Valu}, Sml v → PyData.showableAll (v.map pyT) = true
  | [], _ => rfl
  | t :: r, h => by
    show (PyData.showable (pyT t) && PyData.showableAll (r.map pyT)) = true
    obtain ⟨h1, h2, h3⟩ := h t (List.mem_cons_self ..)
    rw [ent_showable fun u hu => h u (List.mem_cons_of_mem _ hu), Bool.and_true]
    show (((decide (t.1.natAbs.log2 < 1920)) && ((decide (t.2.1.natAbs.log2 < 1920)) && true)) && ((decide (t.2.2.natAbs.log2 < 1920)) && true)) = true
    rw [sml_show h1, sml_show h2, sml_show h3] <;> rfl
theorem ent_nodict (v : Valu) : PyData.hasDictAll (v.map pyT) = false := by
  induction v with
  | nil => rfl
  | cons t r ih => show (PyData.hasDict (pyT t) || PyData.hasDictAll (r.map pyT)) = false; rw [ih] <;> rfl
theorem ent_depth (v : Valu) : PyData.depthAll (v.map pyT) ≤ 3 := by
  induction v with
  | nil => simp [PyData.depthAll]
  | cons t r ih =>
    rw [List.map_cons]
    simp only [PyData.depthAll]
    have : (pyT t).depth ≤ 3 := by unfold pyT; simp [PyData.depth, PyData.depthAll]
    omega
section
variable {P : Program} {w : World} {K : PySem.W.Frag}
/-- repr of a list of ((a, b), c) -/
theorem c_ent {v : Valu} (h : Sml v) (hl : v.length ≤ 200000) : OpN K (gRepr K) [.lst (v.map dEnt)] (dT (txtL v)) := by
  have e : toPy (.lst (v.map dEnt)) = .list (v.map pyT) := by show PyData.list (toPys (v.map dEnt)) = _; rw [ent_py]
  have := c_reprL (K := K) (xs := v.map dEnt) (ent_plain v) (by rw [e]; exact ent_showable h) (by rw [e]; exact ent_nodict v) (by
    rw [e]
    have := ent_depth v
    simp only [PyData.depth]
    omega) (by
    rw [e, tl_shown, s_len]
    have := txtL_len h
    omega)
  rw [e, tl_shown] at this
  exact this
/-! ### the classes' rows -/
def dLRow (r : List Nat) : D := .lst (r.map fun i => .int (i : Nat))
def dLRows (rs : Rws) : D := .lst (rs.map dLRow)
structure LIn where
  al : List Nat
  ws : List (List Nat)
  s : Nat
def en_crows (a : LIn) : List D := [dT a.al, dTs a.ws, .int (a.s : Nat)]
def pr_crows (a : LIn) : Prop := Alp a.al ∧ Wds a.al a.ws ∧ a.s ≤ 1000
def fn_crows (a : LIn) : Out := .ret (dLRows (rowsAt a.al a.ws a.s))
abbrev sp_crows (K : PySem.W.Frag) : Sp := spF K en_crows pr_crows fn_crows
def kT (v : Valu) : Key := .inr (S' (txtL v))
theorem kT_inj : ∀ a b : Valu, kT a = kT b → a = b := fun a b h => txtL_inj (S'_inj.mp (Sum.inr.inj h))
abbrev mkN (s : List Valu) : Option S := some (.mk (kvG kT 0 s))
theorem low_in {al : List Nat} {c : Nat} (h : Alp al) (hc : lo1 c ∈ al) : c ∈ al ↔ c = lo1 c := by
  constructor
  · intro hm
    have := h.low c hm
    unfold lo1
    rw [if_neg (by omega)]
  · intro e
    rw [e]
    exact hc
theorem take_flat {α : Type} {vs : List (List α)} {i : Nat} {v : List α} (h : vs[i]? = some v) : (vs.take (i + 1)).flatten = (vs.take i).flatten ++ v := by
  obtain ⟨hi, e⟩ := List.getElem?_eq_some_iff.mp h
  rw [← List.take_append_getElem hi, List.flatten_append, e]
  simp
theorem dd_at {β : Type} [DecidableEq β] {l : List β} {m : List β} {v : β} (h : v ∈ m) (p : ∃ t, l = m ++ t) : ixB v (ddF l) = ixB v (ddF m) := by
  obtain ⟨t, rfl⟩ := p
  obtain ⟨u, e⟩ := ddF_pre m t
  rw [e, ixB_app (ddF_mem.mpr h)]
theorem flat_pre {α : Type} {vs : List (List α)} {i k : Nat} {v : List α} (h : vs[i]? = some v) : ∃ t, vs.flatten = ((vs.take i).flatten ++ v.take k) ++ t := by
  obtain ⟨hi, e⟩ := List.getElem?_eq_some_iff.mp h
  refine ⟨v.drop k ++ (vs.drop (i + 1)).flatten, ?_⟩
  have e1 : vs = vs.take i ++ (v :: vs.drop (i + 1)) := by rw [← e, List.getElem_cons_drop, List.take_append_drop]
  have e2 : vs.flatten = (vs.take i).flatten ++ (v ++ (vs.drop (i + 1)).flatten) := by
    have := congrArg List.flatten e1
    rw [List.flatten_append, List.flatten_cons] at this
    exact this
  rw [e2]
  have e3 : v = v.take k ++ v.drop k := (List.take_append_drop k v).symm
  rw [List.append_assoc, ← List.append_assoc (v.take k), ← e3]
end
end Tw

set_option maxHeartbeats 8000000
/-! ComI: _law_class_rows. -/
namespace Tw
open PySem PySem.Spec PyProof.Rows L2 Sym
section
variable {P : Program} {w : World} {K : PySem.W.Frag}
theorem ite_inst {α : Sort _} {p : Prop} (i1 i2 : Decidable p) (a b : α) : @ite α p i1 a b = @ite α p i2 a b := by
  cases Subsingleton.elim i1 i2
  rfl
/-- a text of the list, by its index -/
theorem texts_at {ws : List (List Nat)} {i : Nat} {l : List Nat} (h : ws[i]? = some l) : atI (ws.map dT) (i : Nat) = some (dT l) := atI_of (by rw [List.getElem?_map, h] <;> rfl)
theorem lrow_at {r : List Nat} {i : Nat} (h : i < r.length) : atI (r.map fun i => D.int (i : Nat)) (i : Nat) = some (.int (r.getD i 0 : Nat)) := row_at h
theorem lrows_at {rs : Rws} {i : Nat} {r : List Nat} (h : rs[i]? = some r) : atI (rs.map dLRow) (i : Nat) = some (dLRow r) := atI_of (by rw [List.getElem?_map, h] <;> rfl)
theorem along_at {al l r : List Nat} {k : Nat} (h : k < l.length + 1) : (alongF al l r)[k]? = some (valF (cntF ((stepsF al l r).take k))) := by
  unfold alongF
  rw [List.getElem?_map, List.getElem?_range h] <;> rfl
/-- text's number: looked up, new or not; the row's next number -/
theorem run_name {E : XK} {s : List Valu} {v : Valu} {row : List D} {n6 : Nat} {ds : Env'} {Po : Post} (h6 : ds[6]? = some (mkN s)) (h13 : ds[13]? = some (some (.im (dT (txtL v))))) (h10 : ds[10]? = some (some (.ml row))) (hs : s.length < 16777216) (hr : row.length < 16777216) (hd : 13 < ds.length)
    (k : Po.nx ((ds.set 6 (mkN (if v ∈ s then s else s ++ [v]))).set 10 (some (.ml (row ++ [.int ((ixB v (if v ∈ s then s else s ++ [v]) : Nat) : Nat)]))))) :
    Run K E (tSeq (tIfS (tTest (tOp (gNotIn P w K) (tVar 13) (tVar 6))) (sPut P w K (tVar 6) (tVar 13) (tCB (gLen P w K) (tCons (tVar 6) tNil))) tNext) (tDrop (tBM K "list" rAppend (tVar 10) (tCons (tIx P w K (tVar 6) (tVar 13)) tNil)))) ds Po := by
  have fin : ∀ {ds' : Env'} {u : List Valu}, v ∈ u → ds' = ds.set 6 (mkN u) → Po.nx ((ds.set 6 (mkN u)).set 10 (some (.ml (row ++ [.int ((ixB v u : Nat) : Nat)])))) → Run K E (tDrop (tBM K "list" rAppend (tVar 10) (tCons (tIx P w K (tVar 6) (tVar 13)) tNil))) ds' Po := fun {ds' u} hu e kk => by
    subst e
    refine run_append (i := 10) (by rw [List.getElem?_set_ne (by decide)]; exact h10) (d := .int ((ixB v u : Nat) : Nat)) (ev_getK (i := 6) (k := kT v) (List.getElem?_set_self (by omega)) (ev_var (by rw [List.getElem?_set_ne (by decide)]; exact h13)) ?_) hr kk
    rw [kvG_get kT_inj, if_pos hu, Nat.zero_add]
  refine q_when (b := !decide (v ∈ s)) ?_ (fun hb => ?_) fun hb => ?_
  · refine et_test ((ev_notInK (i := 6) (k := kT v) h6 (ev_var h13)).is ?_)
    rw [kvG_get kT_inj]
    by_cases q : v ∈ s
    · rw [if_pos q, decide_eq_true q] <;> rfl
    · rw [if_neg q, decide_eq_false q] <;> rfl
  · have hn : v ∉ s := of_decide_eq_false (not_tt hb)
    refine run_putK (i := 6) (k := kT v) h6 (d := .int ((s.length : Nat) : Nat)) ((ev_lenK (i := 6) h6).is (by rw [kvG_len])) (ev_var h13) (by rw [kvG_len]; exact hs) ?_
    rw [kvG_put kT_inj _ _ hn]
    rw [if_neg hn] at k
    exact fin (by simp) rfl k
  · have hn : v ∈ s := of_decide_eq_true (not_ff hb)
    rw [if_pos hn] at k
    refine fin hn ?_ k
    apply List.ext_getElem?
    intro j
    by_cases q : 6 = j
    · subst q
      rw [List.getElem?_set_self (by omega)]
      exact h6
    · rw [List.getElem?_set_ne q]
theorem crows_zero (n : Nat) : (List.range n).map (fun _ => D.int 0) = (List.replicate n 0).map fun i : Nat => D.int (i : Nat) := const_row n
theorem ev_len1 {ds : Env'} {te : TE} {l : List Nat} (h : Ev K te ds (dT l)) (hl : l.length ≤ 100000) : Ev K (tOp (gAdd K) (tCB (gLen P w K) (tCons te tNil)) (tC (V.int 1))) ds (.int ((l.length + 1 : Nat) : Nat)) := by
  have e : ((l.length + 1 : Nat) : Int) = (l.length : Int) + 1 := by omega
  rw [e]
  exact ev_op2 (ev_cb (ea_cons h ea_nil) (c_lenSs (by omega))) ev_int o_addI
theorem run_crows (a : LIn) (E : XK) (h : pr_crows a) : Run K E (t__law_class_rows P w K E) (startE N__law_class_rows (en_crows a)) (Ends' (fn_crows a)) := by
  obtain ⟨al, ws, s⟩ := a
  obtain ⟨hA, hW, hS⟩ := h
  dsimp only at hA hW hS
  have hwl := sz_len ws
  have hsz := hW.sz
  unfold t__law_class_rows
  -- rows
  refine q_asg (d := dLRows (rowsAt al ws 0)) ?_ ?_
  · have e : dLRows (rowsAt al ws 0) = .lst (ws.map fun l => dLRow (List.replicate (l.length + 1) 0)) := by
      unfold dLRows rowsAt
      rw [List.map_map] <;> rfl
    rw [e]
    refine ev_lc0 (enc := dT) (as := ws) _ (ei_list (ev_var rfl)) (by omega) fun pre l post hs => ?_
    have hl := sz_mem (show l ∈ ws by rw [hs]; simp)
    refine ⟨_, gw_name, ?_⟩
    unfold dLRow
    rw [← crows_zero]
    exact ev_lc0 (enc := fun i : Nat => .int (i : Nat)) (as := List.range (l.length + 1)) (fun _ => .int 0) (ei_rangeN (ev_len1 (ev_var rfl) (by omega)) (by omega)) (by simp; omega) fun pre i post hs => ⟨_, gw_name, ev_int⟩
  -- turns
  refine run_seq ?_
  refine run_for (enc := fun i : Nat => .int (i : Nat)) (as := List.range s) (fun pre => [some (.im (dT al)), some (.im (dTs ws)), none, none, some (.im (dLRows (rowsAt al ws pre.length))), none, none, none, none, none, none, none, none, none, none]) (fun _ => True) (ei_rangeN (ev_var rfl) (by omega)) (by walk_at "sym leT") trivial (fun pre t post hs _ => ?_) (fun _ => ?_)
  rotate_left
  · refine run_ret (ev_var rfl) ?_
    show fn_crows ⟨al, ws, s⟩ = Out.ret _
    unfold fn_crows
    rw [List.length_range]
  obtain ⟨rfl, ht⟩ := range_split hs
  rw [List.length_append, List.length_range]
  refine ⟨_, eg_name, ?_⟩
  have hsh := shape_at al ws t
  have hlt := rowsAt_lt al ws t
  generalize hrs : rowsAt al ws t = rs at hsh hlt
  let vs := valsF al ws rs
  let nm : Valu → D := fun v => .int ((ixB v (ddF vs.flatten) : Nat) : Nat)
  have hvl : vs.length = ws.length := by
    show (valsF al ws rs).length = _
    unfold valsF
    rw [List.length_map, List.length_zip, hsh.len, Nat.min_self]
  have hvf : vs.flatten.length ≤ 100000 := by
    have := vals_flat al hsh.len
    show (valsF al ws rs).flatten.length ≤ _
    omega
  refine q_newK ?_
  refine q_newL ea_nil (by decide) ?_
  refine run_seq ?_
  have hlen0 : ∀ {ds : Env'}, ds[1]? = some (some (.im (dTs ws))) → Ev K (tCB (gLen P w K) (tCons (tVar 1) tNil)) ds (.int (ws.length : Nat)) := fun e => (ev_cb (ea_cons (ev_var e) ea_nil) c_lenL).is (by rw [List.length_map])
  refine run_for (enc := fun i : Nat => .int (i : Nat)) (as := List.range ws.length) (fun p => [some (.im (dT al)), some (.im (dTs ws)), none, none, some (.im (dLRows rs)), none, mkN (ddF (vs.take p.length).flatten), some (.ml ((vs.take p.length).map fun one => .lst (one.map nm))), none, none, none, none, none, none, none]) (fun _ => True) (ei_rangeN (hlen0 rfl) (by omega)) (by walk_at "sym leT") trivial (fun p i post hs _ => ?_) (fun _ => ?_)
  rotate_left
  · -- rows = [list(line) for line in fresh]
    refine run_freeze 7 rfl ?_
    have hv0 : vs.take (List.range ws.length).length = vs := by rw [List.length_range, ← hvl, List.take_length]
    rw [hv0]
    refine run_asg (d := dLRows (nextF al ws rs)) ?_ ?_
    · have e : dLRows (nextF al ws rs) = .lst (vs.map fun one => .lst (one.map nm)) := by
        unfold dLRows nextF numbF
        rw [List.map_map]
        congr 1
        apply List.map_congr_left
        intro one _
        show dLRow (one.map fun v => ixB v (ddF (valsF al ws rs).flatten)) = _
        unfold dLRow
        rw [List.map_map] <;> rfl
      rw [e]
      exact ev_lc0 (enc := fun one : List Valu => .lst (one.map nm)) (as := vs) _ (ei_list (ev_var rfl)) (by omega) fun pre one post hs => ⟨_, gw_name, ev_cb (ea_cons (ev_var rfl) ea_nil) c_lstL⟩
    · have e : nextF al ws rs = rowsAt al ws (t + 1) := by show _ = nextF al ws (rowsAt al ws t); rw [hrs]
      rw [e]
      exact ⟨by walk_at "sym leT", trivial⟩
  obtain ⟨rfl, hi⟩ := range_split hs
  rw [List.length_append, List.length_range]
  refine ⟨_, eg_name, ?_⟩
  have hl : ws[i]? = some ws[i] := List.getElem?_eq_getElem hi
  have hri : i < rs.length := by rw [hsh.len]; exact hi
  have hr : rs[i]? = some rs[i] := List.getElem?_eq_getElem hri
  have hrl := hsh.get hl hr
  have hlm : ws[i] ∈ ws := List.getElem_mem hi
  have hll := sz_mem hlm
  have hsg := hW.sg _ hlm
  have hrlt : ∀ x ∈ rs[i], x ≤ 100000 := fun x hx => Nat.le_trans (hlt _ (List.getElem_mem hri) x hx) hsz
  have hone : vs[i]? = some (alongF al ws[i] rs[i]) := by
    show (valsF al ws rs)[i]? = _
    unfold valsF
    have e : (ws.zip rs)[i]? = some (ws[i], rs[i]) := List.getElem?_zip_eq_some.mpr ⟨hl, hr⟩
    rw [List.getElem?_map, e] <;> rfl
  generalize ws[i] = l at hl hlm hll hsg hone hrl
  generalize rs[i] = r at hr hrlt hone hrl
  let one := alongF al l r
  have hone' : vs[i]? = some one := hone
  have hol : one.length = l.length + 1 := alongF_len al l r
  let cn : Nat → Cnt := fun k => cntF ((stepsF al l r).take k)
  have hcl : ∀ k, (cn k).length ≤ 100000 := fun k => by
    have := cntF_len ((stepsF al l r).take k)
    rw [List.length_take, stepsF_len] at this
    show (cntF _).length ≤ _
    omega
  refine q_newN ?_
  refine q_newL ea_nil (by decide) ?_
  refine run_seq ?_
  let fr : List D := (vs.take i).map fun one => .lst (one.map nm)
  have hwi : ∀ {ds : Env'}, ds[1]? = some (some (.im (dTs ws))) → ds[8]? = some (some (.im (.int (i : Nat)))) → Ev K (tIx P w K (tVar 1) (tVar 8)) ds (dT l) := fun e1 e2 => ev_ix (ev_var e1) (ev_var e2) (o_ixL (texts_at hl))
  have hwr : ∀ {ds : Env'}, ds[4]? = some (some (.im (dLRows rs))) → ds[8]? = some (some (.im (.int (i : Nat)))) → Ev K (tIx P w K (tVar 4) (tVar 8)) ds (dLRow r) := fun e1 e2 => ev_ix (ev_var e1) (ev_var e2) (o_ixL (lrows_at hr))
  refine run_for (enc := fun i : Nat => .int (i : Nat)) (as := List.range (l.length + 1)) (fun p => [some (.im (dT al)), some (.im (dTs ws)), none, none, some (.im (dLRows rs)), none, mkN (ddF ((vs.take i).flatten ++ one.take p.length)), some (.ml fr), some (.im (.int (i : Nat))), some (.mn P w (kvC (cn (p.length - 1)))), some (.ml ((one.take p.length).map nm)), none, none, none, none]) (fun _ => True) (ei_rangeN (ev_len1 (hwi rfl rfl) (by omega)) (by omega)) (by
    show le [_, _, _, _, _, _, mkN (ddF ((vs.take i).flatten ++ [])), _, _, _, _, _, _, _, _] _
    rw [List.append_nil]
    have e : vs.take (List.range i).length = vs.take i := by rw [List.length_range]
    walk_at "sym leT") trivial (fun p k post hs _ => ?_) (fun _ => ?_)
  rotate_left
  · -- fresh.append(line)
    refine run_freeze 10 rfl ?_
    have e0 : one.take (List.range (l.length + 1)).length = one := by rw [List.length_range, ← hol, List.take_length]
    rw [e0]
    refine run_append (i := 7) (xs := fr) rfl (d := .lst (one.map nm)) (ev_var rfl) (by show ((vs.take i).map _).length < _; rw [List.length_map, List.length_take]; omega) ?_
    have e1 : (vs.take (i + [i].length)).flatten = (vs.take i).flatten ++ one := take_flat hone'
    have e2 : (vs.take (i + [i].length)).map (fun one => D.lst (one.map nm)) = fr ++ [.lst (one.map nm)] := by
      obtain ⟨hi', e⟩ := List.getElem?_eq_some_iff.mp hone'
      show (vs.take (i + 1)).map _ = _
      rw [← List.take_append_getElem hi', List.map_append, e] <;> rfl
    rw [e1, e2]
    exact ⟨by walk_at "sym leT", trivial⟩
  obtain ⟨rfl, hk⟩ := range_split hs
  rw [List.length_append, List.length_range]
  refine ⟨_, eg_name, ?_⟩
  have hv : one[k]? = some (valF (cn k)) := along_at hk
  have hsml : Sml (valF (cn k)) := val_sml (m := 0) (by have := hA.four; omega) (by omega) hrlt k
  have hvk : (valF (cn k)).length ≤ 100000 := Nat.le_trans (valF_len _) (hcl k)
  have htk : one.take (k + 1) = one.take k ++ [valF (cn k)] := by
    obtain ⟨hi', e⟩ := List.getElem?_eq_some_iff.mp hv
    rw [← List.take_append_getElem hi', e]
  have hfl : (vs.take i).flatten.length + (one.take k).length ≤ 100000 := by
    obtain ⟨tt, e⟩ := flat_pre (k := k) hone'
    rw [e] at hvf
    simp only [List.length_append] at hvf
    omega
  -- text, names, line
  refine run_seq ?_
  have rest : ∀ {ds : Env'} {Po : Post}, le [some (.im (dT al)), some (.im (dTs ws)), none, some (.im (.int (k : Nat))), some (.im (dLRows rs)), none, mkN (ddF ((vs.take i).flatten ++ one.take k)), some (.ml fr), some (.im (.int (i : Nat))), some (.mn P w (kvC (cn k))), some (.ml ((one.take k).map nm)), none, none, none, none] ds →
      (∀ ds', le [some (.im (dT al)), some (.im (dTs ws)), none, none, some (.im (dLRows rs)), none, mkN (ddF ((vs.take i).flatten ++ one.take (k + 1))), some (.ml fr), some (.im (.int (i : Nat))), some (.mn P w (kvC (cn k))), some (.ml ((one.take (k + 1)).map nm)), none, none, none, none] ds' → Po.nx ds') →
      Run K E (tSeq (tAsg (tCB (gReprW K) (tCons (tLc (iAny K (tCB (gSorted P w K) (tCons (tVar 9) tNil))) (gName 12) (tTest (tOp (gNe K) (tIx P w K (tVar 9) (tVar 12)) (tC (V.int 0)))) (tTup (tCons (tVar 12) (tCons (tIx P w K (tVar 9) (tVar 12)) tNil))) [12]) tNil)) (gName 13))
        (tSeq (tIfS (tTest (tOp (gNotIn P w K) (tVar 13) (tVar 6))) (sPut P w K (tVar 6) (tVar 13) (tCB (gLen P w K) (tCons (tVar 6) tNil))) tNext) (tDrop (tBM K "list" rAppend (tVar 10) (tCons (tIx P w K (tVar 6) (tVar 13)) tNil))))) ds Po := fun {ds Po} hle hk2 => by
    refine Run.le hle ?_
    refine q_asg (d := dT (txtL (valF (cn k)))) ?_ ?_
    · refine ev_cb (ea_cons (ev_counts (i := 9) (j := 12) (c := cn k) (e := fun q => dEnt (q.1, q.2, cAt (cn k) q)) rfl (by decide) (by show 12 < 15; omega) (by have := hcl k; omega) fun q hq ds2 g1 g2 => ?_) ea_nil) ?_
      · refine ev_tup (ea_cons (ev_var g2) (ea_cons (ev_getN (i := 9) (ks := [.num q.1, .num q.2]) g1 (ev_var g2) ?_ (by simp [NestedKey.depth, NestedKey.depthAll])) ea_nil)) (by show 2 ≤ _; omega)
        show gV (kvC (cn k)) (pairK q) = _
        rw [kvC_get, cAt_some hq] <;> rfl
      · have := c_rW (c_ent (K := K) hsml (by omega))
        have e : ((sortP ((cn k).map (·.1))).filter fun q => !decide (cAt (cn k) q = 0)).map (fun q => dEnt (q.1, q.2, cAt (cn k) q)) = (valF (cn k)).map dEnt := by
          unfold valF
          rw [List.map_map] <;> rfl
        rw [e]
        exact this
    · have hdl : (ddF ((vs.take i).flatten ++ one.take k)).length < 16777216 := by
        have := ddF_len ((vs.take i).flatten ++ one.take k)
        rw [List.length_append] at this
        omega
      refine run_name (n6 := 0) (s := ddF ((vs.take i).flatten ++ one.take k)) (v := valF (cn k)) (row := (one.take k).map nm) rfl rfl rfl hdl (by rw [List.length_map, List.length_take]; omega) (by show 13 < 15; omega) (hk2 _ ?_)
      have e1 : ddF ((vs.take i).flatten ++ one.take (k + 1)) = if valF (cn k) ∈ ddF ((vs.take i).flatten ++ one.take k) then ddF ((vs.take i).flatten ++ one.take k) else ddF ((vs.take i).flatten ++ one.take k) ++ [valF (cn k)] := by
        rw [htk, ← List.append_assoc, ddF_snoc]
        exact ite_inst _ _ _ _
      rw [← e1]
      have e2 : D.int ((ixB (valF (cn k)) (ddF ((vs.take i).flatten ++ one.take (k + 1))) : Nat) : Nat) = nm (valF (cn k)) := by
        show _ = D.int ((ixB (valF (cn k)) (ddF vs.flatten) : Nat) : Nat)
        rw [dd_at (l := vs.flatten) (m := (vs.take i).flatten ++ one.take (k + 1)) (by rw [htk]; simp) (flat_pre hone')]
      rw [e2]
      have e3 : (one.take (k + 1)).map nm = (one.take k).map nm ++ [nm (valF (cn k))] := by rw [htk, List.map_append] <;> rfl
      rw [e3]
      walk_at "sym leT"
  have done : ∀ ds', le [some (.im (dT al)), some (.im (dTs ws)), none, none, some (.im (dLRows rs)), none, mkN (ddF ((vs.take i).flatten ++ one.take (k + 1))), some (.ml fr), some (.im (.int (i : Nat))), some (.mn P w (kvC (cn k))), some (.ml ((one.take (k + 1)).map nm)), none, none, none, none] ds' → le [some (.im (dT al)), some (.im (dTs ws)), none, none, some (.im (dLRows rs)), none, mkN (ddF ((vs.take i).flatten ++ one.take (k + [k].length))), some (.ml fr), some (.im (.int (i : Nat))), some (.mn P w (kvC (cn (k + [k].length - 1)))), some (.ml ((one.take (k + [k].length)).map nm)), none, none, none, none] ds' ∧ True := fun ds' h => ⟨h, trivial⟩
  refine run_if (b := decide ((0 : Int) < (k : Int))) (et_test (ev_op2 (ev_var rfl) ev_int o_gt)) (fun hb => ?_) fun hb => ?_
  rotate_left
  · have hk0 : k = 0 := by have := of_decide_eq_false hb; omega
    refine run_next (rest ?_ done)
    subst hk0
    walk_at "sym leT"
  have hkp : 0 < k := by have := of_decide_eq_true hb; omega
  have hkl : k - 1 < l.length := by omega
  have hkc : ((k : Int) - 1) = ((k - 1 : Nat) : Int) := by omega
  have hkk : k - 1 + 1 = k := by omega
  have hcs := hsg _ (getD_mem hkl)
  generalize hc : l.getD (k - 1) 0 = c at hcs
  have hsub : ∀ {ds : Env'}, ds[3]? = some (some (.im (.int (k : Nat)))) → Ev K (tOp gMinus (tVar 3) (tC (V.int 1))) ds (.int ((k - 1 : Nat) : Nat)) := fun e => by
    rw [← hkc]
    exact ev_op2 (ev_var e) ev_int o_sub
  have hidx : ∀ {ds : Env'}, ds[0]? = some (some (.im (dT al))) → ds[11]? = some (some (.im (dT [c]))) → Ev K (tM1 rSIdx (tVar 0) (tM0 rLow (tVar 11))) ds (.int (ixOf al (lo1 c) : Nat)) := fun e1 e2 => ev_sidxS (ev_var e1) (ev_lowS (l := [c]) (ev_var e2) (asc_one hcs.1) (by show 1 ≤ 5592405; omega)) hcs.2
  refine q_asg (d := dT [c]) (ev_ix (hwi rfl rfl) (hsub rfl) (o_ixSs (by omega) (by rw [← hc]; exact word_at hkl))) ?_
  refine q_asg (d := dPair ((r.getD (k - 1) 0 : Nat), (ixOf al (lo1 c) : Nat))) (ev_tup (ea_cons (ev_ix (hwr rfl rfl) (hsub rfl) (o_ixL (lrow_at (r := r) (i := k - 1) (by omega)))) (ea_cons (hidx rfl rfl) ea_nil)) (by show 2 ≤ _; omega)) ?_
  have hroad : roadF al l r (k - 1) = if c ∈ al then (((r.getD (k - 1) 0 : Nat) : Int), ((ixOf al (lo1 c) : Nat) : Int)) else (((r.getD k 0 : Nat) : Int), ((ixOf al (lo1 c) : Nat) : Int)) := by
    unfold roadF
    rw [hc, hkk]
    have q := low_in hA hcs.2
    unfold dirF
    by_cases z : c = lo1 c
    · rw [if_pos z, if_pos rfl, if_pos (q.mpr z)]
    · rw [if_neg z, if_neg (by decide), if_neg (fun y => z (q.mp y))]
  have hdir : cAt (cn (k - 1)) (roadF al l r (k - 1)) + 1 - 2 * (if (!decide (c ∈ al)) = true then 1 else 0) = cAt (cn (k - 1)) (roadF al l r (k - 1)) + dirF (l.getD (k - 1) 0) := by
    rw [hc]
    have q := low_in hA hcs.2
    unfold dirF
    by_cases z : c = lo1 c
    · rw [decide_eq_true (q.mpr z), if_pos z, if_neg (by decide)]
      omega
    · rw [decide_eq_false (fun y => z (q.mp y)), if_neg z, if_pos (by decide)]
      omega
  have hdep : (NestedKey.tup [.num (roadF al l r (k - 1)).1, .num (roadF al l r (k - 1)).2]).depth ≤ 8 := by simp [NestedKey.depth, NestedKey.depthAll]
  have put : ∀ {ds : Env'} {Po : Post}, ds[9]? = some (some (.mn P w (kvC (cn (k - 1))))) → ds[0]? = some (some (.im (dT al))) → ds[11]? = some (some (.im (dT [c]))) → ds[12]? = some (some (.im (dPair (roadF al l r (k - 1))))) → Po.nx (ds.set 9 (some (.mn P w (kvC (cn k))))) →
      Run K E (sPut P w K (tVar 9) (tVar 12) (tOp gMinus (tOp (gAdd K) (tGet2 P w K (tVar 9) (tVar 12) (tC (V.int 0))) (tC (V.int 1))) (tOp gMul (tC (V.int 2)) (tCB gInt (tCons (tOp (gNotIn P w K) (tVar 11) (tVar 0)) tNil))))) ds Po := fun {ds Po} h9 h0 h11 h12 kk => by
    refine run_putN (i := 9) (ks := [.num (roadF al l r (k - 1)).1, .num (roadF al l r (k - 1)).2]) h9 (d := .int (cAt (cn (k - 1)) (roadF al l r (k - 1)) + dirF (l.getD (k - 1) 0))) ?_ (ev_var h12) (by unfold kvC; rw [List.length_map]; have := hcl (k - 1); omega) ?_ hdep
    · rw [← hdir]
      refine ev_op2 (ev_op2 (x := .int (cAt (cn (k - 1)) (roadF al l r (k - 1)))) ((ev_get2N (i := 9) (ks := [.num (roadF al l r (k - 1)).1, .num (roadF al l r (k - 1)).2]) h9 (ev_var h12) ev_int hdep).is ?_) ev_int o_addI) (ev_op2 ev_int (ev_cb (ea_cons (ev_op2 (ev_var h11) (ev_var h0) o_notInSs) ea_nil) c_intB) (o_mul ?_)) o_sub
      · show (gV (kvC (cn (k - 1))) (pairK (roadF al l r (k - 1)))).getD _ = _
        rw [kvC_get]
        unfold cAt
        cases gV (cn (k - 1)) (roadF al l r (k - 1)) <;> rfl
      · split <;> exact cmul_of (a := 2) (b := 2) (by decide) (by decide) (by omega)
    · have e : pV (kvC (cn (k - 1))) (.tup [.num (roadF al l r (k - 1)).1, .num (roadF al l r (k - 1)).2]) (.int (cAt (cn (k - 1)) (roadF al l r (k - 1)) + dirF (l.getD (k - 1) 0))) = kvC (cn k) := by
        show pV (kvC (cn (k - 1))) (pairK (roadF al l r (k - 1))) _ = _
        rw [kvC_put]
        show _ = kvC (cntF ((stepsF al l r).take k))
        have e2 := stepsF_take al l r (k - 1) hkl
        rw [hkk] at e2
        rw [e2, cntF_snoc] <;> rfl
      rw [e]
      exact kk
  refine q_when (b := !decide (c ∈ al)) (et_test (ev_op2 (ev_var rfl) (ev_var rfl) o_notInSs)) (fun hb2 => ?_) fun hb2 => ?_
  · have hn : c ∉ al := of_decide_eq_false (not_tt hb2)
    refine run_asg (d := dPair ((r.getD k 0 : Nat), (ixOf al (lo1 c) : Nat))) (ev_tup (ea_cons (ev_ix (hwr rfl rfl) (ev_var rfl) (o_ixL (lrow_at (r := r) (i := k) (by omega)))) (ea_cons (hidx rfl rfl) ea_nil)) (by show 2 ≤ _; omega)) ?_
    rw [if_neg hn] at hroad
    rw [← hroad]
    exact put rfl rfl rfl rfl (rest (by walk_at "sym leT") done)
  · have hn : c ∈ al := of_decide_eq_true (not_ff hb2)
    rw [if_pos hn] at hroad
    rw [← hroad]
    exact put rfl rfl rfl rfl (rest (by walk_at "sym leT") done)
end
end Tw

/-! ComJ: asking with exceptions caught; drawn pairs of words. -/
namespace Tw
open PySem PySem.Spec PyProof.Rows L2 Sym
section
variable {P : Program} {w : World} {K : PySem.W.Frag}
/-! ### cuts -/
theorem cut_take {α : Type} (l : List α) (k : Nat) : Sym.cutD l none (some (k : Int)) = l.take k := by
  unfold Sym.cutD
  rw [HT.sIx_none, HT.sIx_nat, List.drop_zero, Nat.sub_zero]
  by_cases h : k ≤ l.length
  · rw [Nat.min_eq_left h]
  · rw [Nat.min_eq_right (by omega), List.take_length, List.take_of_length_le (by omega)]
theorem cut_drop {α : Type} (l : List α) (k : Nat) : Sym.cutD l (some (k : Int)) none = l.drop k := by
  unfold Sym.cutD
  rw [HT.sIx_none, HT.sIx_nat]
  by_cases h : k ≤ l.length
  · rw [Nat.min_eq_left h, List.take_of_length_le (by rw [List.length_drop]; omega)]
  · rw [Nat.min_eq_right (by omega), Nat.sub_self, List.take_zero, List.drop_of_length_le (by omega)]
theorem cut_mid {α : Type} (l : List α) (a b : Nat) : Sym.cutD l (some (a : Int)) (some (b : Int)) = (l.take b).drop a := by
  unfold Sym.cutD
  rw [HT.sIx_nat, HT.sIx_nat, List.drop_take]
  by_cases h : a ≤ l.length
  · rw [Nat.min_eq_left h]
    by_cases h2 : b ≤ l.length
    · rw [Nat.min_eq_left h2]
    · rw [Nat.min_eq_right (by omega), List.take_of_length_le (by rw [List.length_drop]; omega), List.take_of_length_le (by rw [List.length_drop]; omega)]
  · rw [Nat.min_eq_right (show l.length ≤ a by omega), List.drop_of_length_le (Nat.le_refl _), List.drop_of_length_le (by omega), List.take_nil, List.take_nil]
/-! ### == of data -/
theorem eqv_same {x : PyData} (h : SeqAt.shaped x = true) : PyData.eqv x x = true := SeqAt.eqv_refl x (SeqAt.canLay_of_shaped h)
theorem o_neSame {d : D} (h1 : plain d = true) (h2 : SeqAt.shaped (toPy d) = true) : Op2 K (gNe K) d d (.bl false) := by
  have := o_neD (K := K) h1 h1 h2 h2
  rw [eqv_same h2] at this
  exact this
theorem texts_plain (ws : List (List Nat)) : plain (dTs ws) = true := by
  show plains (ws.map dT) = true
  induction ws with
  | nil => rfl
  | cons l r ih => show (true && plains (r.map dT)) = true; rw [ih] <;> rfl
theorem texts_lay : ∀ {ws : List (List Nat)}, (∀ l ∈ ws, Asc l) → PyData.canLayAll0 (toPys (ws.map dT)) = true ∧ PyData.depthAll (toPys (ws.map dT)) ≤ 2
  | [], _ => ⟨by simp [toPys, PyData.canLayAll0], by simp [toPys, PyData.depthAll]⟩
  | l :: r, h => by
    have ih := texts_lay fun m hm => h m (List.mem_cons_of_mem _ hm)
    have hl := h l (List.mem_cons_self ..)
    rw [List.map_cons]
    refine ⟨?_, ?_⟩
    · show PyData.canLayAll0 (PyData.str (S' l) :: toPys (r.map dT)) = true
      have e : PyData.strOk (S' l) = true := by
        show (S' l).cps.all (· < 0x110000) = true
        rw [← Array.all_toList]
        exact List.all_eq_true.mpr fun c hc => decide_eq_true (by have := hl c hc; omega)
      simp only [PyData.canLayAll0, ih.1, PyData.canLay0, e, Bool.and_self]
    · show PyData.depthAll (PyData.str (S' l) :: toPys (r.map dT)) ≤ 2
      simp only [PyData.depthAll, PyData.depth]
      omega
theorem texts_shaped {ws : List (List Nat)} (h : ∀ l ∈ ws, Asc l) : SeqAt.shaped (toPy (dTs ws)) = true := by
  obtain ⟨h1, h2⟩ := texts_lay h
  unfold SeqAt.shaped
  rw [Bool.and_eq_true]
  refine ⟨?_, decide_eq_true ?_⟩
  · show PyData.canLay0 (.list (toPys (ws.map dT))) = true
    simp only [PyData.canLay0, h1]
  · show PyData.depth (.list (toPys (ws.map dT))) ≤ 64
    simp only [PyData.depth]
    omega
theorem o_neTs {ws : List (List Nat)} (h : ∀ l ∈ ws, Asc l) : Op2 K (gNe K) (dTs ws) (dTs ws) (.bl false) := o_neSame (texts_plain ws) (texts_shaped h)
/-! ### asking -/
structure ExF (K : PySem.W.Frag) (C1 C2 S : Addr) : Prop where
  e1 : PySem.W.exmOne K (.ref C1) (.ref S) = some true
  e2 : PySem.W.exmOne K (.ref C2) (.ref S) = some true
  x1 : XfC K C1
  x2 : XfC K C2
  y1 : ExcC K C1
  y2 : ExcC K C2
  n1 : PySem.W.findIn K (.ref C1) "alphabet" = some none
  n2 : PySem.W.findIn K (.ref C2) "word" = some none
  k11 : PySem.W.kitOne K (.ref C1) (.ref C1) = some true
  k12 : PySem.W.kitOne K (.ref C1) (.ref C2) = some false
  k1v : PySem.W.kitOne K (.ref C1) (.type "ValueError") = some true
  k21 : PySem.W.kitOne K (.ref C2) (.ref C1) = some false
  k22 : PySem.W.kitOne K (.ref C2) (.ref C2) = some true
  k2v : PySem.W.kitOne K (.ref C2) (.type "ValueError") = some true
abbrev sAlp : List Nat := [97, 108, 112, 104, 97, 98, 101, 116]
abbrev sWrd : List Nat := [119, 111, 114, 100]
def askF (a : CIn) : D := if isAlF a.al then (match badF a.al a.ws with | some l => dTs [sWrd, l] | none => dRows (rowsAt a.al a.ws a.s)) else dTs [sAlp, a.al]
def fn_ask (a : CIn) : Out := .ret (askF a)
abbrev sp_ask (K : PySem.W.Frag) : Sp := spF K en_raw pr_cls fn_ask
theorem rel_ref {C : Addr} : ∀ u, RelV (.ref C) u → u = .ref C := fun u h => h
theorem rel_ty {T : String} : ∀ u, RelV (.ty T) u → u = .type T := fun u h => h
theorem run_ask {C1 C2 S : Addr} (X : ExF K C1 C2 S) (a : CIn) (E : XK) (h : pr_cls a) : Run K E (t__law_asked P w K E (sp_cls K C1 C2) S C1 C2) (startE N__law_asked (en_raw a)) (Ends' (fn_ask a)) := by
  unfold t__law_asked
  refine run_tryRet (enc := en_raw) (pre := pr_cls) (fn := fn_cls C1 C2) a (ea_cons (ev_var rfl) (ea_cons (ev_var rfl) (ea_cons (ev_var rfl) ea_nil))) h (fun d hd => ?_) fun C fs he => ?_
  · show fn_ask a = Out.ret d
    unfold fn_cls fn_chWs at hd
    unfold fn_ask askF
    dsimp only at hd
    cases q : isAlF a.al with
    | true =>
      rw [q, if_pos rfl] at hd
      rw [if_pos rfl]
      cases q2 : badF a.al a.ws with
      | none => rw [q2] at hd; exact hd
      | some l => rw [q2] at hd; cases hd
    | false =>
      rw [q, if_neg (by decide)] at hd
      cases hd
  · unfold fn_cls fn_chWs at he
    dsimp only at he
    have tst : ∀ {C : Addr} {cv : V} {u : Value} {b : Bool} {ad dx : Addr} {fs : List Str} {xs : List D} {ds : Env'}, ExcC K C → (∀ u', RelV cv u' → u' = u) → PySem.W.kitOne K (.ref C) u = some b → ds[3]? = some (some (.im (.exn ad dx fs xs))) → EvT K (tTruG K (tCB (rIsX K ad (.ref C) (some dx)) (tCons (tVar 3) (tCons (tC cv) tNil)))) ds b := fun h1 h2 h3 h4 => et_tru (et_isX (ev_var h4) h1 h2 h3) rfl
    cases q : isAlF a.al with
    | true =>
      rw [q, if_pos rfl] at he
      cases q2 : badF a.al a.ws with
      | none => rw [q2] at he; cases he
      | some l =>
        rw [q2] at he
        cases he
        refine ⟨X.e2, fun ad dx => ?_⟩
        refine q_when (b := false && _) (et_and (c := false) (tst X.y2 rel_ref X.k21 rfl) fun z => by cases z) (fun hb => by cases hb) fun _ => ?_
        refine q_when (b := true && (!false && true)) (et_and (tst X.y2 rel_ref X.k22 rfl) fun _ => et_and (et_not (tst X.y2 rel_ref X.k21 rfl)) fun _ => tst X.y2 rel_ty X.k2v rfl) (fun _ => ?_) fun hb => by cases hb
        refine run_ret (d := dTs [sWrd, l]) (ev_lst (ea_cons ev_str (ea_cons (ev_xg (ev_var rfl) X.x2 X.n2 rfl) ea_nil)) (by show 2 ≤ _; omega)) ?_
        show fn_ask a = Out.ret _
        unfold fn_ask askF
        rw [q, if_pos rfl, q2]
    | false =>
      rw [q, if_neg (by decide)] at he
      cases he
      refine ⟨X.e1, fun ad dx => ?_⟩
      refine q_when (b := true && (!false && true)) (et_and (tst X.y1 rel_ref X.k11 rfl) fun _ => et_and (et_not (tst X.y1 rel_ref X.k12 rfl)) fun _ => tst X.y1 rel_ty X.k1v rfl) (fun _ => ?_) fun hb => by cases hb
      refine run_ret (d := dTs [sAlp, a.al]) (ev_lst (ea_cons ev_str (ea_cons (ev_xg (ev_var rfl) X.x1 X.n1 rfl) ea_nil)) (by show 2 ≤ _; omega)) ?_
      show fn_ask a = Out.ret _
      unfold fn_ask askF
      rw [q, if_neg (by decide)]
/-! ### drawn pairs -/
def pbF : List Int := [6, 4, 4, 4, 4, 3] ++ List.replicate 12 24
def en_0 (_ : Unit) : List D := []
def fn_pb (_ : Unit) : Out := .ret (dInts pbF)
abbrev sp_pb (K : PySem.W.Frag) : Sp := spF K en_0 (fun _ => True) fn_pb
theorem run_pb (a : Unit) (E : XK) (h : True) : Run K E (t__law_pair_bases P w K E) (startE N__law_pair_bases (en_0 a)) (Ends' (fn_pb a)) := by
  unfold t__law_pair_bases
  refine run_ret (d := dInts pbF) ?_ rfl
  have e : pbF.map D.int = [6, 4, 4, 4, 4, 3].map D.int ++ (List.range 12).map fun _ => D.int 24 := rfl
  show Ev K _ _ (.lst (pbF.map D.int))
  rw [e]
  exact ev_op2 (ev_lst (ea_cons ev_int (ea_cons ev_int (ea_cons ev_int (ea_cons ev_int (ea_cons ev_int (ea_cons ev_int ea_nil)))))) (by decide)) (ev_lc0 (enc := fun i : Nat => .int (i : Nat)) (as := List.range 12) (fun _ => .int 24) (ei_rangeN ev_int (by decide)) (by decide) fun pre i post hs => ⟨_, gw_name, ev_int⟩) (o_addL (by decide))
end
end Tw

/-! ComK: words of an alphabet; drawn pairs. -/
namespace Tw
open PySem PySem.Spec PyProof.Rows L2 Sym
theorem Sgn.asc {al l : List Nat} (h : Sgn al l) : Asc l := fun c hc => (h c hc).1
theorem Sgn.app {al l m : List Nat} (h : Sgn al l) (h2 : Sgn al m) : Sgn al (l ++ m) := fun c hc => (List.mem_append.mp hc).elim (h c) (h2 c)
theorem Sgn.take {al l : List Nat} (h : Sgn al l) (n : Nat) : Sgn al (l.take n) := fun c hc => h c (List.mem_of_mem_take hc)
theorem Sgn.drop {al l : List Nat} (h : Sgn al l) (n : Nat) : Sgn al (l.drop n) := fun c hc => h c (List.mem_of_mem_drop hc)
theorem Sgn.nil {al : List Nat} : Sgn al [] := fun c hc => by cases hc
theorem lo_up {c : Nat} (h : 97 ≤ c ∧ c ≤ 122) : lo1 (up1 c) = c := by
  unfold up1
  rw [if_pos h]
  unfold lo1
  rw [if_pos (by omega)]
  omega
theorem lo_low {c : Nat} (h : 97 ≤ c ∧ c ≤ 122) : lo1 c = c := by
  unfold lo1
  rw [if_neg (by omega)]
theorem sig_ok {al : List Nat} (h : Alp al) {c : Nat} (hc : c ∈ sigF al) : c < 128 ∧ lo1 c ∈ al := by
  unfold sigF at hc
  rcases List.mem_append.mp hc with q | q
  · have := h.low c q
    exact ⟨by omega, by rw [lo_low this]; exact q⟩
  · obtain ⟨a, ha, rfl⟩ := List.mem_map.mp q
    have := h.low a ha
    exact ⟨up1_lt (by omega), by rw [lo_up this]; exact ha⟩
theorem sw_ok {al : List Nat} (h : Alp al) {c : Nat} (hc : c < 128 ∧ lo1 c ∈ al) : swF c < 128 ∧ lo1 (swF c) ∈ al := by
  refine ⟨swF_lt hc.1, ?_⟩
  have hl := h.low _ hc.2
  unfold swF
  split
  · next e =>
    rw [e, lo_up hl]
    exact hc.2
  · rw [lo_low hl]
    exact hc.2
theorem Sgn.und {al l : List Nat} (hA : Alp al) (h : Sgn al l) : Sgn al (undF l) := fun c hc => by
  unfold undF at hc
  obtain ⟨d, hd, rfl⟩ := List.mem_map.mp hc
  exact sw_ok hA (h d (List.mem_reverse.mp hd))
theorem Sgn.struck {al l : List Nat} (h : Sgn al l) : Sgn al (struckF l) := fun c hc => h c (struckF_mem l c hc)
theorem Sgn.own {al l m : List Nat} (hA : Alp al) (h : Sgn al l) (h2 : Sgn al m) : Sgn al (ownF l m) := Sgn.struck (((h.app h2).app (h.und hA)).app (h2.und hA))
theorem ownF_len (l m : List Nat) : (ownF l m).length ≤ 2 * (l.length + m.length) := by
  unfold ownF
  have := struckF_len (l ++ m ++ undF l ++ undF m)
  simp only [List.length_append, undF_len] at this
  omega
theorem Sgn.word {al : List Nat} {row : List Int} {many : Nat} (hA : Alp al) : Sgn al (wordF al row many) := fun c hc => by
  unfold wordF at hc
  obtain ⟨k, _, rfl⟩ := List.mem_map.mp hc
  refine sig_ok hA ?_
  have hl : 0 < (sigF al).length := by unfold sigF; rw [List.length_append]; have := hA.one; omega
  have h1 : (row.getD k 0 % ((sigF al).length : Int)).toNat < (sigF al).length := by
    have := Int.emod_lt_of_pos (row.getD k 0) (show (0 : Int) < ((sigF al).length : Int) by omega)
    have := Int.emod_nonneg (row.getD k 0) (show ((sigF al).length : Int) ≠ 0 by omega)
    omega
  rw [List.getD_eq_getElem?_getD, List.getElem?_eq_getElem h1]
  exact List.getElem_mem h1
theorem wordF_len (al : List Nat) (row : List Int) (many : Nat) : (wordF al row many).length = many := by unfold wordF; simp
theorem Alp.asc {al : List Nat} (h : Alp al) : Asc al := fun c hc => by have := h.low c hc; omega
theorem Alp.sgn {al : List Nat} (h : Alp al) : Sgn al al := fun c hc => by
  have := h.low c hc
  exact ⟨by omega, by rw [lo_low this]; exact hc⟩
section
variable {P : Program} {w : World} {K : PySem.W.Frag}
/-! ### _law_word_pair -/
/-- a row of these digits -/
structure PB (row : List Int) : Prop where
  len : row.length = 18
  get : ∀ (i : Nat) (b : Int), pbF[i]? = some b → ∃ d, row[i]? = some d ∧ 0 ≤ d ∧ d < b
def partF (al : List Nat) (row : List Int) (k : Nat) : List Nat := wordF al ((row.take (9 + 3 * k)).drop (6 + 3 * k)) (row.getD (1 + k) 0).toNat
def oneF (al : List Nat) (row : List Int) : List Nat := ownF ([al.getD 0 0] ++ (partF al row 0).take 1) ([al.getD (al.length - 1) 0] ++ (partF al row 1).take 1)
def twoF (al : List Nat) (row : List Int) : List Nat := ownF ((partF al row 2).take 2) ((partF al row 3).take 2)
def pairF (al : List Nat) (row : List Int) : List (List Nat) :=
  let p := partF al row
  let one := oneF al row
  let two := twoF al row
  if row.getD 0 0 = 0 then [p 0 ++ p 1 ++ p 2, p 0 ++ p 2 ++ p 1]
  else if row.getD 0 0 = 1 then [p 0 ++ one ++ two ++ p 1, p 0 ++ two ++ one ++ p 1]
  else if row.getD 0 0 = 2 then [ownF one two, []]
  else if row.getD 0 0 = 3 then [one ++ p 0, p 0 ++ one]
  else if row.getD 0 0 = 4 then [p 0 ++ p 1 ++ undF (p 1), p 0 ++ (p 2).take (row.getD 5 0).toNat]
  else [p 0 ++ p 1, p 2 ++ p 3]
def en_pair (a : List Nat × List Int) : List D := [dT a.1, dInts a.2]
def pr_pair (a : List Nat × List Int) : Prop := Alp a.1 ∧ PB a.2
def fn_pair (a : List Nat × List Int) : Out := .ret (dTs (pairF a.1 a.2))
abbrev sp_pair (K : PySem.W.Frag) : Sp := spF K en_pair pr_pair fn_pair
theorem PB.small {row : List Int} (h : PB row) {k : Nat} (hk : k < 4) : ∃ d : Nat, row[1 + k]? = some (d : Int) ∧ d < 4 ∧ (row.getD (1 + k) 0).toNat = d := by
  have hb : pbF[1 + k]? = some 4 := by
    have : ∀ k, k < 4 → pbF[1 + k]? = some 4 := by decide
    exact this k hk
  obtain ⟨d, h1, h2, h3⟩ := h.get _ _ hb
  refine ⟨d.toNat, by rw [h1]; congr 1; omega, by omega, ?_⟩
  rw [List.getD_eq_getElem?_getD, h1] <;> rfl
theorem part_ok {al : List Nat} {row : List Int} (hA : Alp al) (h : PB row) {k : Nat} (hk : k < 4) : Sgn al (partF al row k) ∧ (partF al row k).length ≤ 3 := by
  obtain ⟨d, _, h2, h3⟩ := h.small hk
  refine ⟨Sgn.word hA, ?_⟩
  unfold partF
  rw [wordF_len, h3]
  omega
theorem pair_ok' {al : List Nat} {row : List Int} (hA : Alp al) (h : PB row) : ∀ l ∈ pairF al row, Sgn al l ∧ l.length ≤ 60 := fun l hl => by
  obtain ⟨s0, l0⟩ := part_ok hA h (k := 0) (by omega)
  obtain ⟨s1, l1⟩ := part_ok hA h (k := 1) (by omega)
  obtain ⟨s2, l2⟩ := part_ok hA h (k := 2) (by omega)
  obtain ⟨s3, l3⟩ := part_ok hA h (k := 3) (by omega)
  have ha : ∀ i, i < al.length → Sgn al [al.getD i 0] := fun i hi c hc => by
    rw [List.mem_singleton.mp hc]
    exact hA.sgn _ (getD_mem hi)
  have one1 := hA.one
  have so : Sgn al (oneF al row) := Sgn.own hA ((ha 0 (by omega)).app (s0.take 1)) ((ha (al.length - 1) (by omega)).app (s1.take 1))
  have st : Sgn al (twoF al row) := Sgn.own hA (s2.take 2) (s3.take 2)
  have lo : (oneF al row).length ≤ 8 := by
    have := ownF_len ([al.getD 0 0] ++ (partF al row 0).take 1) ([al.getD (al.length - 1) 0] ++ (partF al row 1).take 1)
    simp only [List.length_append, List.length_take, List.length_cons, List.length_nil] at this
    unfold oneF
    omega
  have lt : (twoF al row).length ≤ 8 := by
    have := ownF_len ((partF al row 2).take 2) ((partF al row 3).take 2)
    simp only [List.length_take] at this
    unfold twoF
    omega
  have lu := undF_len (partF al row 1)
  have l4 := ownF_len (oneF al row) (twoF al row)
  unfold pairF at hl
  dsimp only at hl
  split at hl
  · simp only [List.mem_cons, List.not_mem_nil, or_false] at hl
    rcases hl with rfl | rfl
    · exact ⟨(s0.app s1).app s2, by simp only [List.length_append]; omega⟩
    · exact ⟨(s0.app s2).app s1, by simp only [List.length_append]; omega⟩
  split at hl
  · simp only [List.mem_cons, List.not_mem_nil, or_false] at hl
    rcases hl with rfl | rfl
    · exact ⟨((s0.app so).app st).app s1, by simp only [List.length_append]; omega⟩
    · exact ⟨((s0.app st).app so).app s1, by simp only [List.length_append]; omega⟩
  split at hl
  · simp only [List.mem_cons, List.not_mem_nil, or_false] at hl
    rcases hl with rfl | rfl
    · exact ⟨so.own hA st, by omega⟩
    · exact ⟨.nil, by simp⟩
  split at hl
  · simp only [List.mem_cons, List.not_mem_nil, or_false] at hl
    rcases hl with rfl | rfl
    · exact ⟨so.app s0, by simp only [List.length_append]; omega⟩
    · exact ⟨s0.app so, by simp only [List.length_append]; omega⟩
  split at hl
  · simp only [List.mem_cons, List.not_mem_nil, or_false] at hl
    rcases hl with rfl | rfl
    · exact ⟨(s0.app s1).app (s1.und hA), by simp only [List.length_append]; omega⟩
    · exact ⟨s0.app (s2.take _), by simp only [List.length_append, List.length_take]; omega⟩
  · simp only [List.mem_cons, List.not_mem_nil, or_false] at hl
    rcases hl with rfl | rfl
    · exact ⟨s0.app s1, by simp only [List.length_append]; omega⟩
    · exact ⟨s2.app s3, by simp only [List.length_append]; omega⟩
theorem run_pair (a : List Nat × List Int) (E : XK) (h : pr_pair a) : Run K E (t__law_word_pair P w K E (sp_undone K) (sp_own K) (sp_word K)) (startE N__law_word_pair (en_pair a)) (Ends' (fn_pair a)) := by
  obtain ⟨al, row⟩ := a
  obtain ⟨hA, hB⟩ := h
  dsimp only at hA hB
  have h18 := hB.len
  have one1 := hA.one
  have four := hA.four
  unfold t__law_word_pair
  obtain ⟨s0, l0⟩ := part_ok hA hB (k := 0) (by omega)
  obtain ⟨s1, l1⟩ := part_ok hA hB (k := 1) (by omega)
  obtain ⟨s2, l2⟩ := part_ok hA hB (k := 2) (by omega)
  obtain ⟨s3, l3⟩ := part_ok hA hB (k := 3) (by omega)
  refine q_asg (d := dTs [partF al row 0, partF al row 1, partF al row 2, partF al row 3]) ?_ ?_
  · show Ev K _ _ (.lst ((List.range 4).map fun k => dT (partF al row k)))
    refine ev_lc0 (enc := fun i : Nat => .int (i : Nat)) (as := List.range 4) (fun k => dT (partF al row k)) (ei_rangeN (n := 4) ev_int (by decide)) (by decide) fun pre k post hs => ?_
    obtain ⟨_, hk⟩ := range_split hs
    obtain ⟨d, e1, e2, e3⟩ := hB.small hk
    have g1 : atI (row.map D.int) (1 + (k : Int)) = some (.int (d : Nat)) := by
      rw [show 1 + (k : Int) = ((1 + k : Nat) : Int) by omega]
      exact atI_map (atI_of e1)
    have hcut : Sym.cutD (row.map D.int) (some (6 + 3 * (k : Int))) (some (9 + 3 * (k : Int))) = ((row.take (9 + 3 * k)).drop (6 + 3 * k)).map D.int := by
      rw [show 6 + 3 * (k : Int) = ((6 + 3 * k : Nat) : Int) by omega, show 9 + 3 * (k : Int) = ((9 + 3 * k : Nat) : Int) by omega, cut_mid, ← List.map_take, ← List.map_drop]
    refine ⟨_, gw_name, ev_call (enc := en_word) (pre := pr_word) (f := fn_word) (al, (row.take (9 + 3 * k)).drop (6 + 3 * k), d) (ea_cons (ev_var rfl) (ea_cons ?_ (ea_cons (ev_ix (ev_var rfl) (ev_op2 ev_int (ev_var rfl) o_addI) (o_ixL g1)) ea_nil))) ⟨hA.asc, by show 1 ≤ al.length; omega, by show al.length ≤ 1000; omega, ?_, ?_⟩ ?_⟩
    · show Ev K _ _ (.lst _)
      rw [← hcut]
      have cm : CMulW 3 (k : Int) := cmul_of (a := 2) (b := 4) (by decide) (by omega) (by omega)
      exact ev_sl (ev_var rfl) (eo_some (ev_op2 ev_int (ev_op2 ev_int (ev_var rfl) (o_mul cm)) o_addI)) (eo_some (ev_op2 ev_int (ev_op2 ev_int (ev_var rfl) (o_mul cm)) o_addI)) o_slL
    · show d ≤ ((row.take (9 + 3 * k)).drop (6 + 3 * k)).length
      rw [List.length_drop, List.length_take, h18]
      omega
    · show d ≤ 100000
      omega
    · show Out.ret _ = Out.ret _
      unfold partF
      rw [e3]
  generalize hp0 : partF al row 0 = p0 at s0 l0
  generalize hp1 : partF al row 1 = p1 at s1 l1
  generalize hp2 : partF al row 2 = p2 at s2 l2
  generalize hp3 : partF al row 3 = p3 at s3 l3
  have part : ∀ {ds : Env'} {i : Nat} {l : List Nat}, ds[2]? = some (some (.im (dTs [p0, p1, p2, p3]))) → [p0, p1, p2, p3][i]? = some l → Ev K (tIx P w K (tVar 2) (tC (V.int (i : Nat)))) ds (dT l) := fun e1 e2 => ev_ix (ev_var e1) ev_int (o_ixL (texts_at e2))
  have q0 : ∀ {ds : Env'}, ds[2]? = some (some (.im (dTs [p0, p1, p2, p3]))) → Ev K (tIx P w K (tVar 2) (tC (V.int 0))) ds (dT p0) := fun e => part (i := 0) e rfl
  have q1 : ∀ {ds : Env'}, ds[2]? = some (some (.im (dTs [p0, p1, p2, p3]))) → Ev K (tIx P w K (tVar 2) (tC (V.int 1))) ds (dT p1) := fun e => part (i := 1) e rfl
  have q2 : ∀ {ds : Env'}, ds[2]? = some (some (.im (dTs [p0, p1, p2, p3]))) → Ev K (tIx P w K (tVar 2) (tC (V.int 2))) ds (dT p2) := fun e => part (i := 2) e rfl
  have q3 : ∀ {ds : Env'}, ds[2]? = some (some (.im (dTs [p0, p1, p2, p3]))) → Ev K (tIx P w K (tVar 2) (tC (V.int 3))) ds (dT p3) := fun e => part (i := 3) e rfl
  have tk : ∀ {ds : Env'} {te : TE} {l : List Nat} (n : Nat), Ev K te ds (dT l) → l.length ≤ 1000 → Ev K (tSl (gSl K) te tNoPart (tPart (tC (V.int (n : Nat))))) ds (dT (l.take n)) := fun n h hl => by
    rw [← cut_take]
    exact ev_sl h eo_none (eo_some ev_int) (o_slSs (by omega))
  have ad : ∀ {ds : Env'} {ta tb : TE} {l m : List Nat}, Ev K ta ds (dT l) → Ev K tb ds (dT m) → l.length ≤ 1000 → m.length ≤ 1000 → Ev K (tOp (gAdd K) ta tb) ds (dT (l ++ m)) := fun h1 h2 h3 h4 => ev_op2 h1 h2 (o_addSs (by omega))
  have a0 : al.getD 0 0 ∈ al := getD_mem (by omega)
  have a1 : al.getD (al.length - 1) 0 ∈ al := getD_mem (by omega)
  have sg1 : ∀ c ∈ al, Sgn al [c] := fun c hc d hd => by rw [List.mem_singleton.mp hd]; exact hA.sgn c hc
  have own : ∀ {ds : Env'} {ta tb : TE} {l m : List Nat}, Ev K ta ds (dT l) → Ev K tb ds (dT m) → Sgn al l → Sgn al m → l.length ≤ 1000 → m.length ≤ 1000 → Ev K (tCall (sp_own K) [] E (tCons ta (tCons tb tNil))) ds (dT (ownF l m)) := fun h1 h2 h3 h4 h5 h6 => ev_call (enc := en_2T) (pre := pr_2T) (f := fn_own) (_, _) (ea_cons h1 (ea_cons h2 ea_nil)) ⟨h3.asc, by dsimp only; omega, h4.asc, by dsimp only; omega⟩ rfl
  have lt1 : ∀ (l : List Nat) n, (l.take n).length ≤ l.length := fun l n => by rw [List.length_take]; omega
  have hone : oneF al row = ownF ([al.getD 0 0] ++ p0.take 1) ([al.getD (al.length - 1) 0] ++ p1.take 1) := by unfold oneF; rw [hp0, hp1]
  have htwo : twoF al row = ownF (p2.take 2) (p3.take 2) := by unfold twoF; rw [hp2, hp3]
  have hlen : ((al.length : Int) - 1) = ((al.length - 1 : Nat) : Int) := by omega
  refine q_asg (d := dT (oneF al row)) ?_ ?_
  · rw [hone]
    refine own (ad (ev_ix (ev_var rfl) ev_int (o_ixSs (l := al) (show al.length ≤ 16777216 by omega) (word_at (l := al) (i := 0) (show 0 < al.length by omega)))) (tk 1 (q0 rfl) (by omega)) (by simp) (by have := lt1 p0 1; omega)) (ad (ev_ix (ev_var rfl) ((ev_op2 (ev_cb (ea_cons (ev_var rfl) ea_nil) (c_lenSs (l := al) (by omega))) ev_int o_sub).is (by rw [hlen])) (o_ixSs (l := al) (show al.length ≤ 16777216 by omega) (word_at (l := al) (i := al.length - 1) (show al.length - 1 < al.length by omega)))) (tk 1 (q1 rfl) (by omega)) (by simp) (by have := lt1 p1 1; omega)) ((sg1 _ a0).app (s0.take 1)) ((sg1 _ a1).app (s1.take 1)) ?_ ?_
    · rw [List.length_append]; have := lt1 p0 1; simp at this ⊢; omega
    · rw [List.length_append]; have := lt1 p1 1; simp at this ⊢; omega
  refine q_asg (d := dT (twoF al row)) ?_ ?_
  · rw [htwo]
    exact own (tk 2 (q2 rfl) (by omega)) (tk 2 (q3 rfl) (by omega)) (s2.take 2) (s3.take 2) (by have := lt1 p2 2; omega) (by have := lt1 p3 2; omega)
  have so : Sgn al (oneF al row) := by rw [hone]; exact Sgn.own hA ((sg1 _ a0).app (s0.take 1)) ((sg1 _ a1).app (s1.take 1))
  have st : Sgn al (twoF al row) := by rw [htwo]; exact Sgn.own hA (s2.take 2) (s3.take 2)
  have lo : (oneF al row).length ≤ 8 := by
    rw [hone]
    have := ownF_len ([al.getD 0 0] ++ p0.take 1) ([al.getD (al.length - 1) 0] ++ p1.take 1)
    simp only [List.length_append, List.length_take, List.length_cons, List.length_nil] at this
    omega
  have lt : (twoF al row).length ≤ 8 := by
    rw [htwo]
    have := ownF_len (p2.take 2) (p3.take 2)
    simp only [List.length_take] at this
    omega
  have hfn : fn_pair (al, row) = .ret (dTs (if row.getD 0 0 = 0 then [p0 ++ p1 ++ p2, p0 ++ p2 ++ p1]
      else if row.getD 0 0 = 1 then [p0 ++ oneF al row ++ twoF al row ++ p1, p0 ++ twoF al row ++ oneF al row ++ p1]
      else if row.getD 0 0 = 2 then [ownF (oneF al row) (twoF al row), []]
      else if row.getD 0 0 = 3 then [oneF al row ++ p0, p0 ++ oneF al row]
      else if row.getD 0 0 = 4 then [p0 ++ p1 ++ undF p1, p0 ++ p2.take (row.getD 5 0).toNat]
      else [p0 ++ p1, p2 ++ p3])) := by
    unfold fn_pair pairF
    dsimp only
    rw [hp0, hp1, hp2, hp3]
  generalize oneF al row = one at *
  generalize twoF al row = two at *
  obtain ⟨r0, hr0, _, _⟩ := hB.get 0 6 rfl
  have hd0 : row.getD 0 0 = r0 := by rw [List.getD_eq_getElem?_getD, hr0] <;> rfl
  rw [hd0] at hfn
  have g0 : atI (row.map D.int) 0 = some (.int r0) := atI_map (atI_of (n := 0) hr0)
  have tst : ∀ {ds : Env'} (n : Int), ds[1]? = some (some (.im (dInts row))) → EvT K (tTest (tOp (gEq K) (tIx P w K (tVar 1) (tC (V.int 0))) (tC (V.int n)))) ds (decide (r0 = n)) := fun n e => et_test (ev_op2 (ev_ix (ev_var e) ev_int (o_ixL g0)) ev_int o_eqI)
  have mk2 : ∀ {ds : Env'} {ta tb : TE} {l m : List Nat}, Ev K ta ds (dT l) → Ev K tb ds (dT m) → Ev K (tLst (tCons ta (tCons tb tNil))) ds (dTs [l, m]) := fun h1 h2 => ev_lst (ea_cons h1 (ea_cons h2 ea_nil)) (by show 2 ≤ _; omega)
  refine q_when (tst 0 rfl) (fun hb => ?_) fun hb => ?_
  · refine run_ret (d := dTs [p0 ++ p1 ++ p2, p0 ++ p2 ++ p1]) (mk2 (ad (ad (q0 rfl) (q1 rfl) (by omega) (by omega)) (q2 rfl) (by rw [List.length_append]; omega) (by omega)) (ad (ad (q0 rfl) (q2 rfl) (by omega) (by omega)) (q1 rfl) (by rw [List.length_append]; omega) (by omega))) ?_
    show fn_pair (al, row) = _
    rw [hfn, if_pos (of_decide_eq_true hb)]
  have n0 := of_decide_eq_false hb
  rw [if_neg n0] at hfn
  refine q_when (tst 1 rfl) (fun hb => ?_) fun hb => ?_
  · refine run_ret (d := dTs [p0 ++ one ++ two ++ p1, p0 ++ two ++ one ++ p1]) (mk2 (ad (ad (ad (q0 rfl) (ev_var rfl) (by omega) (by omega)) (ev_var rfl) (by rw [List.length_append]; omega) (by omega)) (q1 rfl) (by simp only [List.length_append]; omega) (by omega)) (ad (ad (ad (q0 rfl) (ev_var rfl) (by omega) (by omega)) (ev_var rfl) (by rw [List.length_append]; omega) (by omega)) (q1 rfl) (by simp only [List.length_append]; omega) (by omega))) ?_
    show fn_pair (al, row) = _
    rw [hfn, if_pos (of_decide_eq_true hb)]
  have n1 := of_decide_eq_false hb
  rw [if_neg n1] at hfn
  refine q_when (tst 2 rfl) (fun hb => ?_) fun hb => ?_
  · refine run_ret (d := dTs [ownF one two, []]) (mk2 (own (ev_var rfl) (ev_var rfl) so st (by omega) (by omega)) ev_str) ?_
    show fn_pair (al, row) = _
    rw [hfn, if_pos (of_decide_eq_true hb)]
  have n2 := of_decide_eq_false hb
  rw [if_neg n2] at hfn
  refine q_when (tst 3 rfl) (fun hb => ?_) fun hb => ?_
  · refine run_ret (d := dTs [one ++ p0, p0 ++ one]) (mk2 (ad (ev_var rfl) (q0 rfl) (by omega) (by omega)) (ad (q0 rfl) (ev_var rfl) (by omega) (by omega))) ?_
    show fn_pair (al, row) = _
    rw [hfn, if_pos (of_decide_eq_true hb)]
  have n3 := of_decide_eq_false hb
  rw [if_neg n3] at hfn
  refine q_when (tst 4 rfl) (fun hb => ?_) fun hb => ?_
  · obtain ⟨r5, hr5, h50, _⟩ := hB.get 5 3 rfl
    have hd5 : row.getD 5 0 = r5 := by rw [List.getD_eq_getElem?_getD, hr5] <;> rfl
    have g5 : atI (row.map D.int) 5 = some (.int (r5.toNat : Nat)) := by
      rw [show ((r5.toNat : Nat) : Int) = r5 by omega]
      exact atI_map (atI_of (n := 5) hr5)
    rw [hd5] at hfn
    have u1 := undF_len p1
    refine run_ret (d := dTs [p0 ++ p1 ++ undF p1, p0 ++ p2.take r5.toNat]) (mk2 (ad (ad (q0 rfl) (q1 rfl) (by omega) (by omega)) (ev_call (enc := en_T) (pre := pr_T) (f := fn_undone) p1 (ea_cons (q1 rfl) ea_nil) ⟨s1.asc, by omega⟩ rfl) (by rw [List.length_append]; omega) (by omega)) (ad (q0 rfl) ?_ (by omega) (by have := lt1 p2 r5.toNat; omega))) ?_
    · rw [← cut_take]
      exact ev_sl (q2 rfl) eo_none (eo_some (ev_ix (ev_var rfl) ev_int (o_ixL g5))) (o_slSs (by omega))
    · show fn_pair (al, row) = _
      rw [hfn, if_pos (of_decide_eq_true hb)]
  have n4 := of_decide_eq_false hb
  rw [if_neg n4] at hfn
  refine run_ret (d := dTs [p0 ++ p1, p2 ++ p3]) (mk2 (ad (q0 rfl) (q1 rfl) (by omega) (by omega)) (ad (q2 rfl) (q3 rfl) (by omega) (by omega))) ?_
  show fn_pair (al, row) = _
  rw [hfn]
end
end Tw

/-! ComL: further rules: loops by an invariant, a statement with a claim behind it; printed rows. -/
namespace Sym
open PySem L2 Evl
section
variable {K : PySem.W.Frag} {E : XK} {ds ds' : Env'} {tu tz : TS} {P : Post} {g : TG} {ti : TI}
theorem q_mid (Q : Env' → Prop) (h : Run K E tu ds ⟨Q, fun _ => False, fun _ => False, fun _ => False, fun _ _ => False⟩) (k : ∀ ds', Q ds' → Run K E tz ds' P) : Run K E (tSeq tu tz) ds P :=
  run_seq (h.imp k (fun _ z => z.elim) (fun _ z => z.elim) (fun _ z => z.elim) fun _ _ z => z.elim)
theorem run_forP {α : Type} {enc : α → D} {as : List α} (I : List α → Env' → Prop) (hi : EvI K ti ds (as.map enc)) (h0 : I [] ds)
    (hs : ∀ pre a post ds1, as = pre ++ a :: post → I pre ds1 → ∃ ds2, EvG K g (enc a) ds1 ds2 ∧ Run K E tu ds2 { P with nx := I (pre ++ [a]), ct := I (pre ++ [a]), bk := P.nx })
    (hd : ∀ ds1, I as ds1 → P.nx ds1) : Run K E (tFor ti g tu) ds P := fun F0 H0 F H σ Dn S W => by
  refine hi F0 H0 F H σ S _ fun J F1 H1 G Y g1 wk hG hY => ?_
  have hlen : (as.map enc).length = as.length := List.length_map ..
  refine for_it wk (fun i σ' H' => ∃ F' ds1, Sd K F0 H0 F' H' σ' ds1 ∧ I (as.take i) ds1 ∧ Ex F1 F') ⟨F1, ds, S.grow g1, by simpa using h0, Ex.refl F1⟩
    (fun i σ' H' _ ⟨F', ds1, S', _, e⟩ => hG F' H' e S'.fh) ?_ ?_
  · rintro i v σ' H' H'' hil ⟨F', ds1, S', hI, e⟩ y
    rw [hlen] at hil
    obtain ⟨F'', g2, r2⟩ := hY i v F' H' H'' (enc as[i]) e S'.fh (by rw [List.getElem?_map, List.getElem?_eq_getElem hil] <;> rfl) y
    have hsplit : as = as.take i ++ as[i] :: as.drop (i + 1) := by rw [List.getElem_cons_drop, List.take_append_drop]
    have htake : as.take (i + 1) = as.take i ++ [as[i]] := by rw [List.take_append_getElem]
    obtain ⟨ds2, hg, hr⟩ := hs (as.take i) as[i] (as.drop (i + 1)) ds1 hsplit hI
    refine hg F0 H0 F'' H'' σ' v (S'.grow g2) r2 _ fun σ2 S2 => ?_
    have hF1 : Ex F1 F'' := e.trans g2.ff
    have again : ∀ ds F3 H3 σ3, I (as.take i ++ [as[i]]) ds → Sd K F0 H0 F3 H3 σ3 ds → Ex F'' F3 → ∃ F' ds1, Sd K F0 H0 F' H3 σ3 ds1 ∧ I (as.take (i + 1)) ds1 ∧ Ex F1 F' := fun ds F3 H3 σ3 p s3 e3 =>
      ⟨F3, ds, s3, by rw [htake]; exact p, hF1.trans e3⟩
    exact hr F0 H0 F'' H'' σ2 _ S2 ⟨again, W.rt, fun ds F3 H3 σ3 p s3 e3 => W.nx ds F3 H3 σ3 p s3 ((g1.ff.trans hF1).trans e3), again, W.xe⟩
  · rintro σ' H' ⟨F', ds1, S', hI, e⟩
    rw [hlen, List.take_length] at hI
    exact W.nx _ _ _ _ (hd ds1 hI) S' (g1.ff.trans e)
end
end Sym
namespace Tw
open PySem PySem.Spec PyProof.Rows L2 Sym
/-! ### printed rows -/
theorem join_len (sep : Str) (ts : List Str) (m : Nat) (h : ∀ t ∈ ts, t.length ≤ m) : (Str.join sep ts).length ≤ ts.length * (m + sep.length) := by
  have h1 := StrLaws.join_length_le sep ts
  have h2 : (ts.map (·.length)).sum ≤ ts.length * m := by
    clear h1
    induction ts with
    | nil => simp
    | cons t r ih =>
      rw [List.map_cons, List.sum_cons, List.length_cons, Nat.succ_mul]
      have := h t (List.mem_cons_self ..)
      have := ih fun u hu => h u (List.mem_cons_of_mem _ hu)
      omega
  rw [Nat.mul_add]
  omega
theorem strlen_app (a b : Str) : (a ++ b).length = a.length + b.length := by
  rw [TL.len_tl, TL.tl_append, List.length_append, ← TL.len_tl, ← TL.len_tl]
theorem tuple_len (ts : List Str) (m : Nat) (h : ∀ t ∈ ts, t.length ≤ m) : (tupleText ts).length ≤ ts.length * (m + 2) + 3 := by
  have h1 := join_len ", " ts m h
  unfold tupleText
  rw [strlen_app, strlen_app]
  have e1 : (("(" : String) : Str).length = 1 := by decide
  have e2 : ((", " : String) : Str).length = 2 := by decide
  have e3 : ((if ts.length == 1 then ",)" else ")" : String) : Str).length ≤ 2 := by
    cases ts.length == 1 <;> decide
  rw [e2] at h1
  omega
theorem rows_py (r : List Nat) : toPys (r.map fun i => D.int (i : Nat)) = r.map fun i => PyData.int (i : Nat) := by
  induction r with
  | nil => rfl
  | cons i r ih => show PyData.int (i : Nat) :: toPys (r.map _) = _; rw [ih] <;> rfl
def pyRow (r : List Nat) : PyData := .tuple (r.map fun i => .int (i : Nat))
theorem rowss_py (rs : Rws) : toPys (rs.map dRow) = rs.map pyRow := by
  induction rs with
  | nil => rfl
  | cons r rs ih =>
    show toPy (dRow r) :: toPys (rs.map dRow) = _
    rw [ih]
    show PyData.tuple (toPys (r.map fun i => D.int (i : Nat))) :: _ = _
    rw [rows_py] <;> rfl
theorem row_plain (r : List Nat) : plains (r.map fun i => D.int (i : Nat)) = true := by
  induction r with
  | nil => rfl
  | cons i r ih => show (true && plains (r.map _)) = true; rw [ih] <;> rfl
theorem rows_plain (rs : Rws) : plains (rs.map dRow) = true := by
  induction rs with
  | nil => rfl
  | cons r rs ih => show (plains (r.map fun i => D.int (i : Nat)) && plains (rs.map dRow)) = true; rw [ih, row_plain] <;> rfl
theorem row_show : ∀ {r : List Nat}, (∀ i ∈ r, i ≤ 1000000) → PyData.showableAll (r.map fun i => .int (i : Nat)) = true
  | [], _ => rfl
  | i :: r, h => by
    show (decide ((i : Int).natAbs.log2 < 1920) && PyData.showableAll (r.map _)) = true
    rw [row_show fun j hj => h j (List.mem_cons_of_mem _ hj), Bool.and_true]
    exact sml_show (by have := h i (List.mem_cons_self ..); omega)
theorem rows_show : ∀ {rs : Rws}, (∀ r ∈ rs, ∀ i ∈ r, i ≤ 1000000) → PyData.showableAll (rs.map pyRow) = true
  | [], _ => rfl
  | r :: rs, h => by
    show (PyData.showableAll (r.map fun i => .int (i : Nat)) && PyData.showableAll (rs.map pyRow)) = true
    rw [rows_show fun q hq => h q (List.mem_cons_of_mem _ hq), row_show (h r (List.mem_cons_self ..))] <;> rfl
theorem row_nodict (r : List Nat) : PyData.hasDictAll (r.map fun i => .int (i : Nat)) = false := by
  induction r with
  | nil => rfl
  | cons i r ih => show (false || PyData.hasDictAll (r.map _)) = false; rw [ih] <;> rfl
theorem rows_nodict (rs : Rws) : PyData.hasDictAll (rs.map pyRow) = false := by
  induction rs with
  | nil => rfl
  | cons r rs ih => show (PyData.hasDictAll (r.map fun i => .int (i : Nat)) || PyData.hasDictAll (rs.map pyRow)) = false; rw [ih, row_nodict] <;> rfl
theorem row_depth (r : List Nat) : PyData.depthAll (r.map fun i => .int (i : Nat)) ≤ 1 := by
  induction r with
  | nil => simp [PyData.depthAll]
  | cons i r ih =>
    rw [List.map_cons]
    simp only [PyData.depthAll, PyData.depth]
    omega
theorem rows_depth (rs : Rws) : PyData.depthAll (rs.map pyRow) ≤ 3 := by
  induction rs with
  | nil => simp [PyData.depthAll]
  | cons r rs ih =>
    rw [List.map_cons]
    simp only [PyData.depthAll]
    have : (pyRow r).depth ≤ 3 := by
      unfold pyRow
      simp only [PyData.depth]
      have := row_depth r
      omega
    omega
theorem all_shown : ∀ (xs : List PyData), PyData.shownAll xs = xs.map PyData.shown
  | [] => rfl
  | x :: r => congrArg (PyData.shown x :: ·) (all_shown r)
theorem row_len {r : List Nat} (h : ∀ i ∈ r, i ≤ 1000000) : (PyData.shown (pyRow r)).length ≤ r.length * 12 + 3 := by
  show (tupleText (PyData.shownAll (r.map fun i => .int (i : Nat)))).length ≤ _
  rw [all_shown, List.map_map]
  have := tuple_len (r.map (PyData.shown ∘ fun i => .int (i : Nat))) 10 fun t ht => by
    obtain ⟨i, hi, rfl⟩ := List.mem_map.mp ht
    show (Str.ofString (toString ((i : Nat) : Int))).length ≤ 10
    rw [TL.len_tl]
    exact iL_len (by have := h i hi; omega)
  rw [List.length_map] at this
  exact this
section
variable {P : Program} {w : World} {K : PySem.W.Frag}
/-- repr of the rows: some text -/
theorem c_rows {rs : Rws} (h : ∀ r ∈ rs, ∀ i ∈ r, i ≤ 1000000) (h2 : ∀ r ∈ rs, r.length ≤ 1000) (h3 : rs.length ≤ 1000) : OpN K (gRepr K) [dRows rs] (.str (PyData.shown (.tuple (rs.map pyRow)))) := by
  have e : toPy (dRows rs) = .tuple (rs.map pyRow) := by show PyData.tuple (toPys (rs.map dRow)) = _; rw [rowss_py]
  have := c_reprT (K := K) (xs := rs.map dRow) (rows_plain rs) (by
    show PyData.showable (toPy (dRows rs)) = true
    rw [e]
    exact rows_show h) (by
    show PyData.hasDict (toPy (dRows rs)) = false
    rw [e]
    exact rows_nodict rs) (by
    show PyData.depth (toPy (dRows rs)) ≤ 60
    rw [e]
    have := rows_depth rs
    simp only [PyData.depth]
    omega) (by
    show (PyData.shown (toPy (dRows rs))).length ≤ _
    rw [e]
    show (tupleText (PyData.shownAll (rs.map pyRow))).length ≤ _
    rw [all_shown, List.map_map]
    have := tuple_len (rs.map (PyData.shown ∘ pyRow)) 12003 fun t ht => by
      obtain ⟨r, hr, rfl⟩ := List.mem_map.mp ht
      have := row_len (h r hr)
      have := h2 r hr
      show (PyData.shown (pyRow r)).length ≤ _
      omega
    rw [List.length_map] at this
    have m : rs.length * (12003 + 2) ≤ 1000 * (12003 + 2) := Nat.mul_le_mul_right _ h3
    omega)
  have e' : toPy (.tup (rs.map dRow)) = .tuple (rs.map pyRow) := e
  rw [e'] at this
  exact this
end
end Tw

/-! ComY: what the laws draw at their heads. -/
namespace Tw
open PySem PySem.Spec PyProof.Rows L2 Sym
theorem dig4 (n : Int) {a b c d : Int} (ha : 0 < a) (hb : 0 < b) (hc : 0 < c) (hd : 0 < d) : ∃ x y z u, digF n [a, b, c, d] = [x, y, z, u] ∧ (0 ≤ x ∧ x < a) ∧ (0 ≤ y ∧ y < b) ∧ (0 ≤ z ∧ z < c) ∧ (0 ≤ u ∧ u < d) := by
  have hl := digF_len n [a, b, c, d]
  obtain ⟨x, h0, x1⟩ := digF_get n [a, b, c, d] 0 a rfl ha
  obtain ⟨y, h1, y1⟩ := digF_get n [a, b, c, d] 1 b rfl hb
  obtain ⟨z, h2, z1⟩ := digF_get n [a, b, c, d] 2 c rfl hc
  obtain ⟨u, h3, u1⟩ := digF_get n [a, b, c, d] 3 d rfl hd
  refine ⟨x, y, z, u, ?_, x1, y1, z1, u1⟩
  generalize digF n [a, b, c, d] = l at *
  match l, hl with
  | [p, q, r, s], _ =>
    cases h0; cases h1; cases h2; cases h3
    rfl
theorem dig5 (n : Int) {a b c d e : Int} (ha : 0 < a) (hb : 0 < b) (hc : 0 < c) (hd : 0 < d) (he : 0 < e) : ∃ x y z u v, digF n [a, b, c, d, e] = [x, y, z, u, v] ∧ (0 ≤ x ∧ x < a) ∧ (0 ≤ y ∧ y < b) ∧ (0 ≤ z ∧ z < c) ∧ (0 ≤ u ∧ u < d) ∧ (0 ≤ v ∧ v < e) := by
  have hl := digF_len n [a, b, c, d, e]
  obtain ⟨x, h0, x1⟩ := digF_get n [a, b, c, d, e] 0 a rfl ha
  obtain ⟨y, h1, y1⟩ := digF_get n [a, b, c, d, e] 1 b rfl hb
  obtain ⟨z, h2, z1⟩ := digF_get n [a, b, c, d, e] 2 c rfl hc
  obtain ⟨u, h3, u1⟩ := digF_get n [a, b, c, d, e] 3 d rfl hd
  obtain ⟨v, h4, v1⟩ := digF_get n [a, b, c, d, e] 4 e rfl he
  refine ⟨x, y, z, u, v, ?_, x1, y1, z1, u1, v1⟩
  generalize digF n [a, b, c, d, e] = l at *
  match l, hl with
  | [p, q, r, s, t], _ =>
    cases h0; cases h1; cases h2; cases h3; cases h4
    rfl
/-- the alphabet as the law draws it: z may be added; y never stands in it -/
structure Al2 (al : List Nat) : Prop where
  ok : Alp al
  noy : 121 ∉ al
theorem alF_y {r : Int × Int × Int × Int} (h : pr_alphabet r) : ∀ c ∈ alF r, c ≤ 120 := by
  obtain ⟨h1, h2, h3, h4, h5, h6⟩ := h
  intro c hc
  unfold alF at hc
  split at hc
  · rw [List.mem_singleton.mp hc]; omega
  · split at hc
    · simp only [List.mem_cons, List.not_mem_nil, or_false] at hc
      omega
    · simp only [List.mem_cons, List.not_mem_nil, or_false] at hc
      omega
theorem al2_of {r : Int × Int × Int × Int} (h : pr_alphabet r) : Al2 (alF r) := ⟨alF_ok h, fun z => by have := alF_y h _ z; omega⟩
theorem al2_z {r : Int × Int × Int × Int} (h : pr_alphabet r) (hl : (alF r).length = 3) : Al2 (alF r ++ [122]) := by
  have hA := alF_ok h
  refine ⟨⟨fun c hc => ?_, ?_, ?_, ?_⟩, fun z => ?_⟩
  · rcases List.mem_append.mp hc with q | q
    · exact hA.low c q
    · rw [List.mem_singleton.mp q]; omega
  · refine List.pairwise_append.mpr ⟨hA.up, by simp, fun a ha b hb => ?_⟩
    rw [List.mem_singleton.mp hb]
    have := alF_y h a ha
    omega
  · rw [List.length_append]; simp
  · rw [List.length_append, hl]; decide
  · rcases List.mem_append.mp z with q | q
    · have := alF_y h _ q; omega
    · simp at q
theorem isWd_of {al l : List Nat} (hA : Alp al) (h : Sgn al l) : isWdF al l = true := by
  refine List.all_eq_true.mpr fun c hc => decide_eq_true ?_
  obtain ⟨h1, h2⟩ := h c hc
  unfold sigF
  rw [List.mem_append]
  by_cases q : c = lo1 c
  · exact .inl (q ▸ h2)
  · refine .inr (List.mem_map.mpr ⟨lo1 c, h2, ?_⟩)
    have hl := hA.low _ h2
    unfold lo1 at q hl ⊢
    split at q
    · next z =>
      rw [if_pos z]
      unfold up1
      rw [if_pos (by omega)]
      omega
    · exact absurd rfl q
theorem bad_none {al : List Nat} {ws : List (List Nat)} (hA : Alp al) (h : ∀ l ∈ ws, Sgn al l) : badF al ws = none := List.find?_eq_none.mpr fun l hl => by rw [isWd_of hA (h l hl)]; decide
theorem rows_nil (al : List Nat) : ∀ s, rowsAt al [] s = []
  | 0 => rfl
  | s + 1 => by
    show nextF al [] (rowsAt al [] s) = []
    unfold nextF numbF valsF
    rfl
section
variable {P : Program} {w : World} {K : PySem.W.Frag}
theorem c_join {te : TE} {ds : Env'} {zs : List (List Nat)} {i : Nat} (hi : ds[i]? = some (some (.im (dTs zs)))) (hl : (zs.map (·.length)).sum ≤ 16777216) : Ev K (tM1 (rJoin K) (tC (.str (S' []))) (tVar i)) ds (dT zs.flatten) := ev_join0 (ev_var hi) hl
theorem ev_cell {ds : Env'} {te : TE} {ns : List Int} {k : Nat} {E : XK} {i : Nat} (hi : ds[i]? = some (some (.im (dInts ns)))) (h : Ev K te ds (.int (k : Nat))) (h1 : ns.length ≤ 1000) (h2 : k ≤ 100000) : Ev K (tCall (sp_cell K) [] E (tCons (tVar i) (tCons te tNil))) ds (.int (cellF ns k)) :=
  ev_call (enc := en_cell) (pre := pr_cell) (f := fun a => .ret (.int (cellF a.1 a.2))) (ns, k) (ea_cons (ev_var hi) (ea_cons h ea_nil)) ⟨h1, h2⟩ rfl
theorem ev_dig {ds : Env'} {te tb : TE} {n : Int} {bs : List Int} {E : XK} (h : Ev K te ds (.int n)) (hb : Ev K tb ds (dInts bs)) (h1 : bs.length ≤ 1000) (h2 : ∀ b ∈ bs, 0 < b ∧ b < 2 ^ 31) : Ev K (tCall (sp_digits K) [] E (tCons te (tCons tb tNil))) ds (dInts (digF n bs)) :=
  ev_call (enc := en_digits) (pre := pr_digits) (f := fn_digits) (n, bs) (ea_cons h (ea_cons hb ea_nil)) ⟨h1, h2⟩ rfl
def en_law (ns : List Int) : List D := [dInts ns]
def pr_law (ns : List Int) : Prop := ns.length ≤ 63
def fn_true (_ : List Int) : Out := .ret (.bl true)
abbrev sp_law (K : PySem.W.Frag) : Sp := spF K en_law pr_law fn_true
end
end Tw

/-! ComZ: the end: classes of exceptions, the law's own call. -/
namespace Tw
open PySem PySem.Spec PyProof.Rows L2 Sym
theorem kit_self {K : PySem.W.Frag} {C : Addr} : PySem.W.kitOne K (.ref C) (.ref C) = some true := by
  unfold PySem.W.kitOne
  rw [if_pos (beq_iff_eq.mpr rfl)]
theorem kit_sub {K : PySem.W.Frag} {C D : Addr} {b : Bool} (h0 : PySem.W.subIn K (.ref C) (.ref C) = some true) (h1 : PySem.W.isClsIn K D = true) (h2 : PySem.W.typeIn K (.ref D) = some (.type "type")) (h3 : PySem.W.subIn K (.ref C) (.ref D) = some b) : PySem.W.kitOne K (.ref C) (.ref D) = some b := by
  unfold PySem.W.kitOne
  by_cases e : (Value.ref C == Value.ref D) = true
  · rw [if_pos e]
    have e2 : C = D := Value.ref.inj (beq_iff_eq.mp e)
    subst e2
    rw [h0] at h3
    exact h3
  · rw [if_neg e]
    have h1' : (PySem.W.clsIn K D).isSome = true := h1
    show (if ((PySem.W.clsIn K D).isSome && PySem.W.typeIn K (.ref D) == some (.type "type")) = true then PySem.W.subIn K (.ref C) (.ref D) else none) = _
    rw [h1', h2, if_pos (by decide)]
    exact h3
theorem kit_type {K : PySem.W.Frag} {C : Addr} {b : Bool} (h : PySem.W.subIn K (.ref C) (.type "ValueError") = some b) : PySem.W.kitOne K (.ref C) (.type "ValueError") = some b := by
  unfold PySem.W.kitOne
  rw [if_neg (by intro z; cases (beq_iff_eq.mp z))]
  show (if PySem.W.kitMeta "ValueError" = true then PySem.W.subIn K (.ref C) (.type "ValueError") else none) = _
  rw [if_pos (by decide +kernel)]
  exact h
/-- the law, asked with a script -/
theorem law_goal {K : PySem.W.Frag} {H : Hp} {a : Addr} {ns : List Int} {pr : List Int → Prop} {n : Nat} (hl : ns.length ≤ n) (hS : SqL K H a (ns.map V.int)) (hp : pr ns) :
    spF K (fun ns : List Int => [dInts ns]) pr (fun _ => .ret (.bl true)) [.ref a] H (fun v _ => v = .bl true) fun _ _ _ => False := by
  have ri : ∀ ns : List Int, Rps K H (ns.map D.int) (ns.map V.int) := fun ns => by
    induction ns with
    | nil => rfl
    | cons n r ih => exact .cons rfl ih
  refine ⟨H, ns, Evl.Ex.refl H, ⟨.ref a, [], rfl, ⟨a, ns.map V.int, rfl, hS, ri ns⟩, rfl⟩, hp, fun d e v F' H' g r => ?_, fun C fs e => by cases e⟩
  cases e
  exact r
theorem run_E {K : PySem.W.Frag} {E : XK} {t : TS} {ds : Env'} {o : Out} (h : Run K E0 t ds (Ends' o)) (hn : ∃ d, o = .ret d) : Run K E t ds (Ends' o) := fun F0 H0 F H σ Dn S W =>
  h F0 H0 F H σ Dn S ⟨W.nx, W.rt, W.bk, W.ct, fun C fs dx gs F' H' p => by
    obtain ⟨d, e⟩ := hn
    have p' : o = .exc C fs := p
    rw [e] at p'
    cases p'⟩
end Tw

/-! MathA: words that are one at s storeys: a congruence; what is nothing at s storeys stands in any order at s + 1. -/
namespace Tw
open PySem PySem.Spec PyProof.Rows L2 Sym
abbrev Wo := List Nat
/-- one sign behind the word u: what it adds -/
def eF (f : Wo → Int) (a : Nat) (u : Wo) (c : Nat) : Int := if lo1 c = a then dirF c * f (if dirF c = 1 then u else u ++ [c]) else 0
/-- the sum along l behind u -/
def SP (f : Wo → Int) (a : Nat) : Wo → Wo → Int
  | _, [] => 0
  | u, c :: r => eF f a u c + SP f a (u ++ [c]) r
def SF (f : Wo → Int) (a : Nat) (l : Wo) : Int := SP f a [] l
theorem SP_pre (f : Wo → Int) (a : Nat) : ∀ (l u v : Wo), SP f a (u ++ v) l = SP (fun y => f (u ++ y)) a v l
  | [], _, _ => rfl
  | c :: r, u, v => by
    show eF f a (u ++ v) c + SP f a (u ++ v ++ [c]) r = eF (fun y => f (u ++ y)) a v c + SP (fun y => f (u ++ y)) a (v ++ [c]) r
    rw [List.append_assoc, SP_pre f a r u (v ++ [c])]
    congr 1
    unfold eF
    split
    · congr 1
      split
      · rfl
      · rw [List.append_assoc]
    · rfl
theorem SP_eq (f : Wo → Int) (a : Nat) (u l : Wo) : SP f a u l = SF (fun y => f (u ++ y)) a l := by
  have := SP_pre f a l u []
  rw [List.append_nil] at this
  exact this
theorem SP_app (f : Wo → Int) (a : Nat) : ∀ (l m u : Wo), SP f a u (l ++ m) = SP f a u l + SP f a (u ++ l) m
  | [], m, u => by rw [List.nil_append, List.append_nil]; show _ = 0 + _; omega
  | c :: r, m, u => by
    show eF f a u c + SP f a (u ++ [c]) (r ++ m) = eF f a u c + SP f a (u ++ [c]) r + SP f a (u ++ c :: r) m
    rw [SP_app f a r m (u ++ [c])]
    have e : u ++ [c] ++ r = u ++ c :: r := by rw [List.append_assoc] <;> rfl
    rw [e]
    omega
theorem SF_app (f : Wo → Int) (a : Nat) (l m : Wo) : SF f a (l ++ m) = SF f a l + SF (fun y => f (l ++ y)) a m := by
  unfold SF
  rw [SP_app, List.nil_append, SP_eq f a l m] <;> rfl
/-- one at s storeys -/
def Rl : Nat → Wo → Wo → Prop
  | 0, _, _ => True
  | s + 1, u, v => ∀ f : Wo → Int, (∀ x y, Rl s x y → f x = f y) → ∀ a, SF f a u = SF f a v
theorem Rl.refl : ∀ (s : Nat) (u : Wo), Rl s u u
  | 0, _ => trivial
  | _ + 1, _ => fun _ _ _ => rfl
theorem Rl.symm : ∀ {s : Nat} {u v : Wo}, Rl s u v → Rl s v u
  | 0, _, _, _ => trivial
  | _ + 1, _, _, h => fun f hf a => (h f hf a).symm
theorem Rl.trans : ∀ {s : Nat} {u v z : Wo}, Rl s u v → Rl s v z → Rl s u z
  | 0, _, _, _, _, _ => trivial
  | _ + 1, _, _, _, h, k => fun f hf a => (h f hf a).trans (k f hf a)
theorem Rl.down : ∀ {s : Nat} {u v : Wo}, Rl (s + 1) u v → Rl s u v
  | 0, _, _, _ => trivial
  | s + 1, _, _, h => fun f hf a => h f (fun x y r => hf x y (Rl.down (s := s) r)) a
theorem Rl.left : ∀ {s : Nat} {u v : Wo} (y : Wo), Rl s u v → Rl s (y ++ u) (y ++ v)
  | 0, _, _, _, _ => trivial
  | s + 1, u, v, y, h => fun f hf a => by
    rw [SF_app, SF_app, h (fun z => f (y ++ z)) (fun x z r => hf _ _ (Rl.left y r)) a]
theorem Rl.right : ∀ {s : Nat} {u v : Wo} (z : Wo), Rl s u v → Rl s (u ++ z) (v ++ z)
  | 0, _, _, _, _ => trivial
  | s + 1, u, v, z, h => fun f hf a => by
    have e : (fun y => f (u ++ y)) = fun y => f (v ++ y) := funext fun y => hf _ _ (Rl.right y h.down)
    rw [SF_app, SF_app, h f hf a, e]
theorem Rl.both {s : Nat} {u v x y : Wo} (h : Rl s u v) (k : Rl s x y) : Rl s (u ++ x) (v ++ y) := (h.right x).trans (k.left v)
/-- nothing and nothing stand in any order one storey up -/
theorem Rl.swap {s : Nat} {u v : Wo} (h : Rl s u []) (k : Rl s v []) : Rl (s + 1) (u ++ v) (v ++ u) := fun f hf a => by
  have e1 : (fun y => f (u ++ y)) = f := funext fun y => hf _ _ (h.right y)
  have e2 : (fun y => f (v ++ y)) = f := funext fun y => hf _ _ (k.right y)
  rw [SF_app, SF_app, e1, e2]
  omega
/-! ### signs -/
theorem sw_sw {al : List Nat} (hA : Alp al) {c : Nat} (h : c < 128 ∧ lo1 c ∈ al) : swF (swF c) = c := by
  have hl := hA.low _ h.2
  by_cases e : c = lo1 c
  · have h1 : swF c = up1 c := by unfold swF; rw [if_pos e]
    rw [h1]
    have hc : 97 ≤ c ∧ c ≤ 122 := by rw [← e] at hl; exact hl
    have hu : lo1 (up1 c) = c := lo_up hc
    unfold swF
    rw [if_neg (by rw [hu]; unfold up1; rw [if_pos hc]; omega), hu]
  · have h1 : swF c = lo1 c := by unfold swF; rw [if_neg e]
    rw [h1]
    unfold swF
    rw [if_pos (lo_low hl).symm]
    unfold lo1 at e hl ⊢
    split at e
    · next z =>
      rw [if_pos z]
      unfold up1
      rw [if_pos (by omega)]
      omega
    · exact absurd rfl e
theorem dir_sw {al : List Nat} (hA : Alp al) {c : Nat} (h : c < 128 ∧ lo1 c ∈ al) : lo1 (swF c) = lo1 c ∧ dirF (swF c) = - dirF c := by
  have hl := hA.low _ h.2
  by_cases e : c = lo1 c
  · have h1 : swF c = up1 c := by unfold swF; rw [if_pos e]
    have hc : 97 ≤ c ∧ c ≤ 122 := by rw [← e] at hl; exact hl
    have hu : lo1 (up1 c) = c := lo_up hc
    rw [h1, hu, ← e]
    refine ⟨rfl, ?_⟩
    unfold dirF
    rw [hu, if_neg (by unfold up1; rw [if_pos hc]; omega), if_pos e]
  · have h1 : swF c = lo1 c := by unfold swF; rw [if_neg e]
    rw [h1, lo_low hl]
    refine ⟨rfl, ?_⟩
    unfold dirF
    rw [if_pos (lo_low hl).symm, if_neg e]
    decide
/-- a sign and its other -/
theorem Rl.pair {al : List Nat} (hA : Alp al) {c : Nat} (h : c < 128 ∧ lo1 c ∈ al) : ∀ s, Rl s [c, swF c] []
  | 0 => trivial
  | s + 1 => fun f hf a => by
    obtain ⟨h1, h2⟩ := dir_sw hA h
    show eF f a [] c + (eF f a [c] (swF c) + 0) = 0
    unfold eF
    rw [h1, h2]
    by_cases q : lo1 c = a
    · rw [if_pos q, if_pos q]
      rcases dirF_one c with d | d
      · rw [d, if_pos rfl, if_neg (by decide)]
        have e : f ([c] ++ [swF c]) = f [] := hf _ _ (Rl.pair hA h s)
        rw [e]
        omega
      · rw [d, if_neg (by decide), if_pos (by decide)]
        show -1 * f [c] + (- -1 * f [c] + 0) = 0
        omega
    · rw [if_neg q, if_neg q]
      omega
theorem Rl.undo {al : List Nat} (hA : Alp al) (s : Nat) : ∀ {l : Wo}, Sgn al l → Rl s (l ++ undF l) [] := fun {l} => by
  refine snoc_ind (p := fun l => Sgn al l → Rl s (l ++ undF l) []) (fun _ => Rl.refl s []) (fun l c ih h => ?_) l
  have hc := h c (by simp)
  have hl : Sgn al l := fun d hd => h d (by simp [hd])
  have e : undF (l ++ [c]) = swF c :: undF l := by unfold undF; rw [List.reverse_append, List.map_append] <;> rfl
  have e2 : l ++ [c] ++ undF (l ++ [c]) = l ++ ([c, swF c] ++ undF l) := by rw [e]; simp
  rw [e2]
  exact (((Rl.pair hA hc s).right (undF l)).left l).trans (ih hl)
theorem Rl.strk {al : List Nat} (hA : Alp al) (s : Nat) : ∀ {l : Wo}, Sgn al l → Rl s (struckF l) l := fun {l} => by
  refine snoc_ind (p := fun l => Sgn al l → Rl s (struckF l) l) (fun _ => Rl.refl s []) (fun l c ih h => ?_) l
  have hc := h c (by simp)
  have hl : Sgn al l := fun d hd => h d (by simp [hd])
  have ih := ih hl
  rw [struckF_snoc]
  unfold stkF
  split
  · next e =>
    obtain ⟨st, hst⟩ : ∃ st, struckF l = st ++ [swF c] := by
      have hne : struckF l ≠ [] := fun z => by rw [z] at e; cases e
      refine ⟨(struckF l).dropLast, ?_⟩
      have := List.dropLast_concat_getLast hne
      rw [List.getLast?_eq_some_getLast hne] at e
      rw [← Option.some.inj e]
      exact this.symm
    have hd : (struckF l).dropLast = st := by rw [hst]; simp
    rw [hd]
    have hp : Rl s [swF c, c] [] := by
      have := Rl.pair hA (sw_ok hA hc) s
      rw [sw_sw hA hc] at this
      exact this
    have k1 : Rl s (struckF l ++ [c]) st := by
      rw [hst, List.append_assoc]
      have := hp.left st
      rw [List.append_nil] at this
      exact this
    exact k1.symm.trans (ih.right [c])
  · exact ih.right [c]
/-- the detour of two words that are nothing at s is nothing at s + 1 -/
theorem Rl.own {al : List Nat} (hA : Alp al) {s : Nat} {u v : Wo} (hu : Sgn al u) (hv : Sgn al v) (h : Rl s u []) (k : Rl s v []) : Rl (s + 1) (ownF u v) [] := by
  have h1 : Rl (s + 1) (ownF u v) (u ++ v ++ undF u ++ undF v) := Rl.strk hA (s + 1) (((hu.app hv).app (hu.und hA)).app (hv.und hA))
  have h2 : Rl (s + 1) (u ++ v ++ undF u ++ undF v) (v ++ u ++ undF u ++ undF v) := ((h.swap k).right (undF u)).right (undF v)
  have h3 : Rl (s + 1) (v ++ u ++ undF u ++ undF v) (v ++ undF v) := by
    have := ((Rl.undo hA (s + 1) hu).left v).right (undF v)
    rw [List.append_nil, ← List.append_assoc] at this
    exact this
  exact (h1.trans h2).trans (h3.trans (Rl.undo hA (s + 1) hv))
end Tw

/-! MathB: words that are one at s storeys have one class number. -/
namespace Tw
open PySem PySem.Spec PyProof.Rows L2 Sym
/-! ### the value by the counts -/
theorem cntF_nodup (st : List (Road × Int)) : ((cntF st).map (·.1)).Nodup := by
  refine snoc_ind (p := fun st => ((cntF st).map (·.1)).Nodup) (by simp [cntF]) (fun st s ih => ?_) st
  rw [cntF_snoc]
  unfold addC
  rw [pV_keys]
  split
  · exact ih
  · next h =>
    rw [List.nodup_append]
    exact ⟨ih, by simp, fun a ha b hb => by rw [List.mem_singleton.mp hb]; exact fun z => h (z ▸ ha)⟩
theorem sorted_same : ∀ {as bs : List Road}, as.Pairwise (fun p q => leP p q = true) → bs.Pairwise (fun p q => leP p q = true) → as.Nodup → bs.Nodup → (∀ x, x ∈ as ↔ x ∈ bs) → as = bs
  | [], [], _, _, _, _, _ => rfl
  | [], b :: bs, _, _, _, _, h => by have := (h b).mpr (by simp); cases this
  | a :: as, [], _, _, _, _, h => by have := (h a).mp (by simp); cases this
  | a :: as, b :: bs, h1, h2, n1, n2, h => by
    rw [List.pairwise_cons] at h1 h2
    rw [List.nodup_cons] at n1 n2
    have hab : a = b := by
      rcases List.mem_cons.mp ((h a).mp (by simp)) with e | m1
      · exact e
      · rcases List.mem_cons.mp ((h b).mpr (by simp)) with e | m2
        · exact e.symm
        · exact leP_anti (h1.1 _ m2) (h2.1 _ m1)
    subst hab
    rw [sorted_same h1.2 h2.2 n1.2 n2.2 fun x => ?_]
    constructor
    · intro hx
      rcases List.mem_cons.mp ((h x).mp (by simp [hx])) with e | m
      · exact absurd (e ▸ hx) n1.1
      · exact m
    · intro hx
      rcases List.mem_cons.mp ((h x).mpr (by simp [hx])) with e | m
      · exact absurd (e ▸ hx) n2.1
      · exact m
theorem cAt_none {c : Cnt} {k : Road} (h : k ∉ c.map (·.1)) : cAt c k = 0 := by
  unfold cAt
  rw [gV_none.mpr h] <;> rfl
theorem valF_eq {c d : Cnt} (n1 : (c.map (·.1)).Nodup) (n2 : (d.map (·.1)).Nodup) (h : ∀ k, cAt c k = cAt d k) : valF c = valF d := by
  have key : ∀ (c : Cnt), (c.map (·.1)).Nodup → ((sortP (c.map (·.1))).filter fun k => !decide (cAt c k = 0)).Pairwise (fun p q => leP p q = true) ∧ ((sortP (c.map (·.1))).filter fun k => !decide (cAt c k = 0)).Nodup ∧ ∀ x, x ∈ ((sortP (c.map (·.1))).filter fun k => !decide (cAt c k = 0)) ↔ cAt c x ≠ 0 := fun c n => by
    refine ⟨(sortP_sorted _).filter _, ?_, fun x => ?_⟩
    · exact ((sortP_perm (c.map (·.1))).nodup_iff.mpr n).filter _
    · rw [List.mem_filter, sortP_mem]
      constructor
      · rintro ⟨_, q⟩
        exact of_decide_eq_false (not_tt q)
      · intro q
        refine ⟨Classical.byContradiction fun z => q (cAt_none z), ?_⟩
        rw [decide_eq_false q] <;> rfl
  obtain ⟨a1, a2, a3⟩ := key c n1
  obtain ⟨b1, b2, b3⟩ := key d n2
  have e := sorted_same a1 b1 a2 b2 fun x => by rw [a3, b3, h]
  unfold valF
  rw [e]
  apply List.map_congr_left
  intro k _
  rw [h]
/-! ### the sum along a word -/
theorem SF_snoc (f : Wo → Int) (a : Nat) (u : Wo) (c : Nat) : SF f a (u ++ [c]) = SF f a u + eF f a u c := by
  unfold SF
  rw [SP_app, List.nil_append]
  show _ + (eF f a u c + 0) = _
  omega
/-- counts of a road along the word, by the classes -/
theorem cnt_sum {al l r : List Nat} (h : Sgn al l) {f : Wo → Int} {n : Int} {a : Nat} (ha : a ∈ al) (hf : ∀ q, q ≤ l.length → f (l.take q) = if ((r.getD q 0 : Nat) : Int) = n then 1 else 0) :
    ∀ p, p ≤ l.length → (((((stepsF al l r).take p).filter fun s => decide (s.1 = (n, ((ixOf al a : Nat) : Int)))).map (·.2)).sum) = SF f a (l.take p)
  | 0, _ => rfl
  | p + 1, hp => by
    have hpl : p < l.length := by omega
    rw [stepsF_take al l r p hpl, List.filter_append, List.map_append, List.sum_append, cnt_sum h ha hf p (by omega)]
    have et : l.take (p + 1) = l.take p ++ [l.getD p 0] := by
      rw [← List.take_append_getElem hpl, List.getD_eq_getElem?_getD, List.getElem?_eq_getElem hpl] <;> rfl
    have hc := h _ (getD_mem hpl)
    rw [et, SF_snoc]
    congr 1
    have f0 := hf p (by omega)
    have f1 := hf (p + 1) (by omega)
    rw [et] at f1
    have hix : ((ixOf al (lo1 (l.getD p 0)) : Nat) : Int) = ((ixOf al a : Nat) : Int) ↔ lo1 (l.getD p 0) = a := by
      constructor
      · intro e
        have e' : ixOf al (lo1 (l.getD p 0)) = ixOf al a := by omega
        have g1 := ixOf_get hc.2
        have g2 := ixOf_get ha
        rw [e', g2] at g1
        exact (Option.some.inj g1).symm
      · intro e; rw [e]
    have go : ∀ (x : Int) (y : Wo), roadF al l r p = (x, ((ixOf al (lo1 (l.getD p 0)) : Nat) : Int)) → (f (if dirF (l.getD p 0) = 1 then l.take p else l.take p ++ [l.getD p 0])) = (if x = n then 1 else 0) →
        (([stepF al l r p].filter fun s => decide (s.1 = (n, ((ixOf al a : Nat) : Int)))).map (·.2)).sum = eF f a (l.take p) (l.getD p 0) := fun x y hr hx => by
      unfold stepF eF
      rw [hr, hx]
      by_cases q1 : lo1 (l.getD p 0) = a
      · rw [if_pos q1]
        by_cases q2 : x = n
        · have e : ((x, ((ixOf al (lo1 (l.getD p 0)) : Nat) : Int)) : Road) = (n, ((ixOf al a : Nat) : Int)) := by rw [q1, q2]
          rw [if_pos q2]
          simp only [List.filter_cons, decide_eq_true e]
          simp
        · have e : ¬ ((x, ((ixOf al (lo1 (l.getD p 0)) : Nat) : Int)) : Road) = (n, ((ixOf al a : Nat) : Int)) := fun z => q2 (congrArg Prod.fst z)
          rw [if_neg q2]
          simp only [List.filter_cons, decide_eq_false e]
          simp
      · rw [if_neg q1]
        have e : ¬ ((x, ((ixOf al (lo1 (l.getD p 0)) : Nat) : Int)) : Road) = (n, ((ixOf al a : Nat) : Int)) := fun z => q1 (hix.mp (congrArg Prod.snd z))
        simp only [List.filter_cons, decide_eq_false e]
        rfl
    by_cases d : dirF (l.getD p 0) = 1
    · exact go _ [] (by unfold roadF; rw [if_pos d]) (by rw [if_pos d, f0])
    · exact go _ [] (by unfold roadF; rw [if_neg d]) (by rw [if_neg d, f1])
noncomputable def indF (p : Prop) : Int := @ite Int p (Classical.propDecidable p) 1 0
theorem indF_iff {p q : Prop} (h : p ↔ q) : indF p = indF q := by rw [propext h]
theorem indF_dec {p q : Prop} [i : Decidable q] (h : p ↔ q) : indF p = if q then 1 else 0 := by
  unfold indF
  by_cases hq : q
  · rw [if_pos hq, if_pos (h.mpr hq)]
  · rw [if_neg hq, if_neg (fun z => hq (h.mp z))]
/-! ### the class numbers -/
def numA (al : List Nat) (ws : List (List Nat)) (s i q : Nat) : Nat := ((rowsAt al ws s).getD i []).getD q 0
theorem rows_get {al : List Nat} {ws : List (List Nat)} {s i : Nat} {l : List Nat} (hi : ws[i]? = some l) : ∃ r, (rowsAt al ws s)[i]? = some r ∧ r.length = l.length + 1 ∧ ∀ q, numA al ws s i q = r.getD q 0 := by
  have hs := shape_at al ws s
  have hl : i < (rowsAt al ws s).length := by rw [hs.len]; exact (List.getElem?_eq_some_iff.mp hi).1
  refine ⟨_, List.getElem?_eq_getElem hl, hs.get hi (List.getElem?_eq_getElem hl), fun q => ?_⟩
  unfold numA
  rw [List.getD_eq_getElem?_getD (l := rowsAt al ws s), List.getElem?_eq_getElem hl] <;> rfl
theorem num_val {al : List Nat} {ws : List (List Nat)} {s i : Nat} {l r : List Nat} (hi : ws[i]? = some l) (hr : (rowsAt al ws s)[i]? = some r) {q : Nat} (hq : q < l.length + 1) :
    numA al ws (s + 1) i q = ixB (valF (cntF ((stepsF al l r).take q))) (ddF (valsF al ws (rowsAt al ws s)).flatten) := by
  have e : (rowsAt al ws (s + 1))[i]? = some ((alongF al l r).map fun v => ixB v (ddF (valsF al ws (rowsAt al ws s)).flatten)) := by
    show (nextF al ws (rowsAt al ws s))[i]? = _
    unfold nextF numbF
    rw [List.getElem?_map]
    have e2 : (valsF al ws (rowsAt al ws s))[i]? = some (alongF al l r) := by
      unfold valsF
      have e3 : (ws.zip (rowsAt al ws s))[i]? = some (l, r) := List.getElem?_zip_eq_some.mpr ⟨hi, hr⟩
      rw [List.getElem?_map, e3] <;> rfl
    rw [e2] <;> rfl
  unfold numA
  rw [List.getD_eq_getElem?_getD (l := rowsAt al ws (s + 1)), e]
  show (((alongF al l r).map _).getD q 0) = _
  rw [List.getD_eq_getElem?_getD, List.getElem?_map, along_at hq] <;> rfl
/-- what is one at s storeys has one number -/
theorem Rl.num {al : List Nat} {ws : List (List Nat)} (h : ∀ l ∈ ws, Sgn al l) : ∀ (s i j : Nat) (l m : List Nat) (p q : Nat), ws[i]? = some l → ws[j]? = some m → p ≤ l.length → q ≤ m.length → Rl s (l.take p) (m.take q) → numA al ws s i p = numA al ws s j q
  | 0, i, j, l, m, p, q, hi, hj, hp, hq, _ => by
    have z : ∀ (i p : Nat), numA al ws 0 i p = 0 := fun i p => by
      unfold numA
      cases e : (rowsAt al ws 0)[i]? with
      | none => rw [List.getD_eq_getElem?_getD (l := rowsAt al ws 0), e] <;> rfl
      | some r =>
        rw [List.getD_eq_getElem?_getD (l := rowsAt al ws 0), e]
        show r.getD p 0 = 0
        have hr := List.mem_of_getElem? e
        have hr' : r ∈ ws.map fun l => List.replicate (l.length + 1) 0 := hr
        obtain ⟨l, _, rfl⟩ := List.mem_map.mp hr'
        rw [List.getD_eq_getElem?_getD, List.getElem?_replicate]
        split <;> rfl
    rw [z, z]
  | s + 1, i, j, l, m, p, q, hi, hj, hp, hq, hR => by
    obtain ⟨r, hr, _, nr⟩ := rows_get (al := al) (s := s) hi
    obtain ⟨t, ht, _, nt⟩ := rows_get (al := al) (s := s) hj
    rw [num_val hi hr (by omega), num_val hj ht (by omega)]
    congr 1
    refine valF_eq (cntF_nodup _) (cntF_nodup _) fun k => ?_
    rw [cAt_sum, cAt_sum]
    by_cases hk : ∃ a ∈ al, k.2 = ((ixOf al a : Nat) : Int)
    · obtain ⟨a, ha, e⟩ := hk
      obtain ⟨n, k2⟩ := k
      dsimp only at e
      subst e
      -- the sign of a class number, of any word
      let F : Wo → Int := fun y => indF (∃ (i' : Nat) (l' : List Nat) (q' : Nat), ws[i']? = some l' ∧ q' ≤ l'.length ∧ Rl s y (l'.take q') ∧ ((numA al ws s i' q' : Nat) : Int) = n)
      have hF : ∀ x y, Rl s x y → F x = F y := fun x y hxy => indF_iff
        ⟨fun ⟨i', l', q', h1, h2, h3, h4⟩ => ⟨i', l', q', h1, h2, hxy.symm.trans h3, h4⟩, fun ⟨i', l', q', h1, h2, h3, h4⟩ => ⟨i', l', q', h1, h2, hxy.trans h3, h4⟩⟩
      have hval : ∀ (i : Nat) (l r : List Nat), ws[i]? = some l → (∀ q, numA al ws s i q = r.getD q 0) → ∀ q, q ≤ l.length → F (l.take q) = if ((r.getD q 0 : Nat) : Int) = n then 1 else 0 := fun i l r hi hn q hq => indF_dec (by
        constructor
        · rintro ⟨i', l', q', h1, h2, h3, h4⟩
          rw [← hn q, Rl.num h s i i' l l' q q' hi h1 hq h2 h3]
          exact h4
        · intro e
          exact ⟨i, l, q, hi, hq, Rl.refl s _, by rw [hn q]; exact e⟩)
      rw [cnt_sum (h l (List.mem_of_getElem? hi)) ha (hval i l r hi nr) p hp, cnt_sum (h m (List.mem_of_getElem? hj)) ha (hval j m t hj nt) q hq]
      exact hR F hF a
    · have none : ∀ (l r : List Nat) (p : Nat), Sgn al l → (((stepsF al l r).take p).filter fun s => decide (s.1 = k)) = [] := fun l r p hs => by
        rw [List.filter_eq_nil_iff]
        intro x hx e
        have hx := List.mem_of_mem_take hx
        unfold stepsF at hx
        obtain ⟨q', hq', rfl⟩ := List.mem_map.mp hx
        have hq'' : q' < l.length := List.mem_range.mp hq'
        refine hk ⟨lo1 (l.getD q' 0), (hs _ (getD_mem hq'')).2, ?_⟩
        have e' := of_decide_eq_true e
        rw [← e']
        unfold stepF roadF
        dsimp only
        split <;> rfl
      rw [none l r p (h l (List.mem_of_getElem? hi)), none m t q (h m (List.mem_of_getElem? hj))]
/-- at the words' ends -/
theorem Rl.ends {al : List Nat} {u v : Wo} (hu : Sgn al u) (hv : Sgn al v) {s : Nat} (h : Rl s u v) : numA al [u, v] s 0 u.length = numA al [u, v] s 1 v.length :=
  Rl.num (fun l hl => by
    simp only [List.mem_cons, List.not_mem_nil, or_false] at hl
    rcases hl with rfl | rfl
    · exact hu
    · exact hv) s 0 1 u v u.length v.length rfl rfl (Nat.le_refl _) (Nat.le_refl _) (by rw [List.take_length, List.take_length]; exact h)
end Tw

/-! M57: one at s storeys, deep detours. -/
namespace Tw
open PySem PySem.Spec PyProof.Rows L2 Sym
section
variable {P : Program} {w : World} {K : PySem.W.Frag}
def oneB (al u v : List Nat) (s : Nat) : Bool := decide (((numA al [u, v] s 0 u.length : Nat) : Int) = ((numA al [u, v] s 1 v.length : Nat) : Int))
structure OIn where
  al : List Nat
  u : List Nat
  v : List Nat
  s : Nat
def en_one (a : OIn) : List D := [dT a.al, dT a.u, dT a.v, .int (a.s : Nat)]
def pr_one (a : OIn) : Prop := Alp a.al ∧ Sgn a.al a.u ∧ Sgn a.al a.v ∧ a.u.length ≤ 40000 ∧ a.v.length ≤ 40000 ∧ a.s ≤ 1000
def fn_one (a : OIn) : Out := .ret (.bl (oneB a.al a.u a.v a.s))
abbrev sp_one (K : PySem.W.Frag) : Sp := spF K en_one pr_one fn_one
theorem two_wds {al u v : List Nat} (h1 : Sgn al u) (h2 : Sgn al v) (h3 : u.length ≤ 40000) (h4 : v.length ≤ 40000) : Wds al [u, v] := ⟨fun l hl => by
    simp only [List.mem_cons, List.not_mem_nil, or_false] at hl
    rcases hl with rfl | rfl
    · exact h1
    · exact h2, by unfold szF; simp; omega⟩
theorem row_last {r : List Nat} {n : Nat} (h : r.length = n + 1) : atI (r.map fun i => D.int (i : Nat)) (-1) = some (.int (r.getD n 0 : Nat)) := by
  refine atI_end ?_
  rw [List.getLast?_eq_getElem?, List.length_map, h, Nat.add_sub_cancel, List.getElem?_map, List.getElem?_eq_getElem (by omega), List.getD_eq_getElem?_getD, List.getElem?_eq_getElem (by omega)] <;> rfl
theorem run_areone (a : OIn) (E : XK) (h : pr_one a) : Run K E (t_are_one P w K E (sp_raw K)) (startE N_are_one (en_one a)) (Ends' (fn_one a)) := by
  obtain ⟨al, u, v, s⟩ := a
  obtain ⟨hA, h1, h2, h3, h4, h5⟩ := h
  dsimp only at hA h1 h2 h3 h4 h5
  unfold t_are_one
  refine q_asg (d := dRows (rowsAt al [u, v] s)) (ev_call (enc := en_raw) (pre := pr_raw) (f := fn_raw) ⟨al, false, [u, v], s⟩ (ea_cons (ev_var rfl) (ea_cons (ev_tup (ea_cons (ev_var rfl) (ea_cons (ev_var rfl) ea_nil)) (by show 2 ≤ _; omega)) (ea_cons (ev_var rfl) ea_nil))) ⟨two_wds h1 h2 h3 h4, h5⟩ rfl) ?_
  obtain ⟨r0, g0, l0, n0⟩ := rows_get (al := al) (ws := [u, v]) (s := s) (i := 0) rfl
  obtain ⟨r1, g1, l1, n1⟩ := rows_get (al := al) (ws := [u, v]) (s := s) (i := 1) rfl
  have ix : ∀ {i : Nat} {r : List Nat}, (rowsAt al [u, v] s)[i]? = some r → atI ((rowsAt al [u, v] s).map dRow) (i : Nat) = some (dRow r) := fun e => atI_of (by rw [List.getElem?_map, e] <;> rfl)
  refine run_ret (d := .bl (decide (((r0.getD u.length 0 : Nat) : Int) = ((r1.getD v.length 0 : Nat) : Int)))) (ev_op2 (ev_ix (ev_ix (ev_var rfl) ev_int (o_ixT (ix (i := 0) g0))) (ev_neg ev_int) (o_ixT (row_last l0))) (ev_ix (ev_ix (ev_var rfl) ev_int (o_ixT (ix (i := 1) g1))) (ev_neg ev_int) (o_ixT (row_last l1))) o_eqI) ?_
  show fn_one ⟨al, u, v, s⟩ = Out.ret _
  unfold fn_one oneB
  rw [n0, n1]
theorem run_oneat (C1 C2 : Addr) (a : OIn) (E : XK) (h : pr_one a) : Run K E (t_one_at P w K E (sp_one K) (sp_chWs K C1 C2)) (startE N_one_at (en_one a)) (Ends' (fn_one a)) := by
  obtain ⟨al, u, v, s⟩ := a
  have hh := h
  obtain ⟨hA, h1, h2, h3, h4, h5⟩ := h
  dsimp only at hA h1 h2 h3 h4 h5
  unfold t_one_at
  have hb : badF al [u, v] = none := bad_none hA (two_wds h1 h2 h3 h4).sg
  have hf : fn_chWs C1 C2 ⟨al, false, [u, v]⟩ = .ret .non := by
    unfold fn_chWs
    dsimp only
    rw [if_pos (isAlF_of hA), hb]
  refine run_seq ?_
  refine run_dropX (enc := en_chWs) (pre := pr_chWs) (f := fn_chWs C1 C2) ⟨al, false, [u, v]⟩ (ea_cons (ev_var rfl) (ea_cons (ev_tup (ea_cons (ev_var rfl) (ea_cons (ev_var rfl) ea_nil)) (by show 2 ≤ _; omega)) ea_nil)) ⟨hA.asc, by have := hA.four; dsimp only; omega⟩ (fun d _ => ?_) fun C fs he => ?_
  · exact run_ret (ev_call (enc := en_one) (pre := pr_one) (f := fn_one) ⟨al, u, v, s⟩ (ea_cons (ev_var rfl) (ea_cons (ev_var rfl) (ea_cons (ev_var rfl) (ea_cons (ev_var rfl) ea_nil)))) hh rfl) rfl
  · rw [hf] at he
    cases he
theorem run_lawone (a : OIn) (E : XK) (h : pr_one a) : Run K E (t__law_one P w K E (sp_crows K)) (startE N__law_one (en_one a)) (Ends' (fn_one a)) := by
  obtain ⟨al, u, v, s⟩ := a
  obtain ⟨hA, h1, h2, h3, h4, h5⟩ := h
  dsimp only at hA h1 h2 h3 h4 h5
  unfold t__law_one
  refine q_asg (d := dLRows (rowsAt al [u, v] s)) (ev_call (enc := en_crows) (pre := pr_crows) (f := fn_crows) ⟨al, [u, v], s⟩ (ea_cons (ev_var rfl) (ea_cons (ev_lst (ea_cons (ev_var rfl) (ea_cons (ev_var rfl) ea_nil)) (by show 2 ≤ _; omega)) (ea_cons (ev_var rfl) ea_nil))) ⟨hA, two_wds h1 h2 h3 h4, h5⟩ rfl) ?_
  obtain ⟨r0, g0, l0, n0⟩ := rows_get (al := al) (ws := [u, v]) (s := s) (i := 0) rfl
  obtain ⟨r1, g1, l1, n1⟩ := rows_get (al := al) (ws := [u, v]) (s := s) (i := 1) rfl
  have hl : ∀ {ds : Env'} {i : Nat} {l : List Nat}, ds[i]? = some (some (.im (dT l))) → l.length ≤ 40000 → Ev K (tCB (gLen P w K) (tCons (tVar i) tNil)) ds (.int (l.length : Nat)) := fun e h => ev_cb (ea_cons (ev_var e) ea_nil) (c_lenSs (by omega))
  refine run_ret (d := .bl (decide (((r0.getD u.length 0 : Nat) : Int) = ((r1.getD v.length 0 : Nat) : Int)))) (ev_op2 (ev_ix (ev_ix (ev_var rfl) ev_int (o_ixL (lrows_at (i := 0) g0))) (hl rfl h3) (o_ixL (lrow_at (r := r0) (i := u.length) (show u.length < r0.length by omega)))) (ev_ix (ev_ix (ev_var rfl) ev_int (o_ixL (lrows_at (i := 1) g1))) (hl rfl h4) (o_ixL (lrow_at (r := r1) (i := v.length) (show v.length < r1.length by omega)))) o_eqI) ?_
  show fn_one ⟨al, u, v, s⟩ = Out.ret _
  unfold fn_one oneB
  rw [n0, n1]
/-! ### the program's undone, struck, detour -/
theorem run_undoneP (l : List Nat) (E : XK) (h : pr_T l) : Run K E (t_undone P w K E (sp_swapped K)) (startE N_undone (en_T l)) (Ends' (fn_undone l)) := by
  obtain ⟨h1, h2⟩ := h
  unfold t_undone
  refine run_ret (d := dT (undF l)) ?_ rfl
  refine ev_join1 ?_ (by rw [undF_len]; omega)
  unfold undF
  rw [List.map_map]
  exact ev_lc0 (enc := fun c => dT [c]) (as := l.reverse) _ (ei_strS (ev_revS (ev_var rfl) (by omega))) (by rw [List.length_reverse]; omega) fun pre c post hs => ⟨_, gw_name, ev_call (enc := en_1T) (pre := (· < 128)) (f := fn_swapped) c (ea_cons (ev_var rfl) ea_nil) (h1 c (List.mem_reverse.mp (by rw [hs]; simp))) rfl⟩
theorem run_struckP (l : List Nat) (E : XK) (h : pr_T l) : Run K E (t_struck P w K E (sp_swapped K)) (startE N_struck (en_T l)) (Ends' (fn_struck l)) := by
  obtain ⟨h1, h2⟩ := h
  unfold t_struck
  refine q_newL ea_nil (by decide) ?_
  refine run_seq ?_
  refine run_for (enc := fun c => dT [c]) (as := l) (fun pre => [some (.im (dT l)), some (.ml ((struckF pre).map fun c => dT [c])), none]) (fun _ => True) (ei_strS (ev_var rfl)) (by walk_at "sym leT") trivial (fun pre c post hs _ => ?_) (fun _ => ?_)
  · have hc : c < 128 := h1 c (by rw [hs]; simp)
    have hlen : (struckF pre).length < 16777216 := by
      have e := congrArg List.length hs
      rw [List.length_append] at e
      have := struckF_len pre
      omega
    refine ⟨_, eg_name, ?_⟩
    refine run_if (b := (!((struckF pre).map fun c => dT [c]).isEmpty) && decide ((struckF pre).getLast? = some (swF c))) ?_ (fun hb => ?_) fun hb => ?_
    · refine et_and (et_peek 1 rfl (et_tru (ev_var rfl) rfl)) fun hb => ?_
      have hne : struckF pre ≠ [] := fun z => by
        rw [z] at hb
        exact absurd hb (by decide)
      have e : decide ((struckF pre).getLast? = some (swF c)) = decide ([(struckF pre).getLast hne] = [swF c]) := by
        rw [List.getLast?_eq_some_getLast hne]
        simp
      rw [e]
      refine et_test (ev_op2 (ev_ixM rfl (ev_neg ev_int) (atI_end ?_)) (ev_call (enc := en_1T) (pre := (· < 128)) (f := fn_swapped) c (ea_cons (ev_var rfl) ea_nil) hc rfl) o_eqSs)
      rw [List.getLast?_map, List.getLast?_eq_some_getLast hne] <;> rfl
    · obtain ⟨b1, b2⟩ := Bool.and_eq_true_iff.mp hb
      have hne : (struckF pre).map (fun c => dT [c]) ≠ [] := fun z => by
        rw [z] at b1
        exact absurd b1 (by decide)
      refine run_pop (i := 1) rfl hne ?_
      rw [struckF_snoc]
      unfold stkF
      rw [if_pos (of_decide_eq_true b2), List.map_dropLast]
      exact ⟨by walk_at "sym leT", trivial⟩
    · have hn : ¬ (struckF pre).getLast? = some (swF c) := fun z => by
        rw [decide_eq_true z, Bool.and_true] at hb
        have h0 : struckF pre = [] := by
          cases q : struckF pre with
          | nil => rfl
          | cons a r => rw [q] at hb; cases hb
        rw [h0] at z
        cases z
      refine run_append (i := 1) rfl (d := dT [c]) (ev_var rfl) (by rw [List.length_map]; exact hlen) ?_
      rw [struckF_snoc]
      unfold stkF
      rw [if_neg hn, List.map_append]
      exact ⟨by walk_at "sym leT", trivial⟩
  · refine run_freeze 1 rfl (run_ret (d := dT (struckF l)) ?_ rfl)
    exact ev_join1 (ev_var rfl) (by have := struckF_len l; omega)
theorem run_detour (a : List Nat × List Nat) (E : XK) (h : pr_2T a) : Run K E (t_detour P w K E (sp_struck K) (sp_undone K)) (startE N_detour (en_2T a)) (Ends' (fn_own a)) := run_own (P := P) (w := w) a E h
/-! ### deep detours -/
def levF (ls : List Wo) : List Wo := (List.range (ls.length / 2)).map fun k => ownF (ls.getD (2 * k) []) (ls.getD (2 * k + 1) [])
def deepN : Nat → List Wo → List Wo
  | 0, ls => ls
  | n + 1, ls => deepN n (levF ls)
/-- words of the alphabet, no longer than m -/
def Gd (al : List Nat) (m : Nat) (ls : List Wo) : Prop := ∀ l ∈ ls, Sgn al l ∧ l.length ≤ m
theorem gd_get {al : List Nat} {m : Nat} {ls : List Wo} (h : Gd al m ls) {k : Nat} (hk : k < ls.length) : Sgn al (ls.getD k []) ∧ (ls.getD k []).length ≤ m := by
  rw [List.getD_eq_getElem?_getD, List.getElem?_eq_getElem hk]
  exact h _ (List.getElem_mem hk)
theorem gd_lev {al : List Nat} (hA : Alp al) {m : Nat} {ls : List Wo} (h : Gd al m ls) : Gd al (4 * m) (levF ls) := fun l hl => by
  unfold levF at hl
  obtain ⟨k, hk, rfl⟩ := List.mem_map.mp hl
  have hk' := List.mem_range.mp hk
  obtain ⟨s1, l1⟩ := gd_get h (k := 2 * k) (by omega)
  obtain ⟨s2, l2⟩ := gd_get h (k := 2 * k + 1) (by omega)
  exact ⟨Sgn.own hA s1 s2, by have := ownF_len (ls.getD (2 * k) []) (ls.getD (2 * k + 1) []); omega⟩
theorem lev_len (ls : List Wo) : (levF ls).length = ls.length / 2 := by unfold levF; simp
/-- what comes of 2^d words is nothing at d storeys -/
theorem rl_deep {al : List Nat} (hA : Alp al) : ∀ (d s m : Nat) (ls : List Wo), Gd al m ls → (∀ l ∈ ls, Rl s l []) → ∀ l ∈ deepN d ls, Rl (s + d) l []
  | 0, _, _, _, _, h => h
  | d + 1, s, m, ls, hg, h => by
    have := rl_deep hA d (s + 1) (4 * m) (levF ls) (gd_lev hA hg) fun l hl => by
      unfold levF at hl
      obtain ⟨k, hk, rfl⟩ := List.mem_map.mp hl
      have hk' := List.mem_range.mp hk
      have gm : ∀ k, k < ls.length → ls.getD k [] ∈ ls := fun k hk => by
        rw [List.getD_eq_getElem?_getD, List.getElem?_eq_getElem hk]
        exact List.getElem_mem hk
      exact Rl.own hA (gd_get hg (by omega)).1 (gd_get hg (by omega)).1 (h _ (gm _ (by omega))) (h _ (gm _ (by omega)))
    rw [show s + (d + 1) = s + 1 + d by omega]
    exact this
theorem gd_deep {al : List Nat} (hA : Alp al) : ∀ (d m : Nat) (ls : List Wo), Gd al m ls → Gd al (4 ^ d * m) (deepN d ls)
  | 0, m, ls, h => by rw [Nat.pow_zero, Nat.one_mul]; exact h
  | d + 1, m, ls, h => by
    have := gd_deep hA d (4 * m) (levF ls) (gd_lev hA h)
    rw [Nat.pow_succ, Nat.mul_assoc]
    exact this
theorem deep_len : ∀ (d : Nat) (ls : List Wo), ls.length = 2 ^ d → (deepN d ls).length = 1
  | 0, ls, h => h
  | d + 1, ls, h => deep_len d (levF ls) (by rw [lev_len, h, Nat.pow_succ]; omega)
structure DIn where
  al : List Nat
  ws : List Wo
  d : Nat
def en_deep (a : DIn) : List D := [dTs a.ws]
def pr_deep (a : DIn) : Prop := Alp a.al ∧ a.ws.length = 2 ^ a.d ∧ a.d ≤ 3 ∧ Gd a.al 20 a.ws
def deepF (a : DIn) : Wo := (deepN a.d (a.ws.map struckF)).getD 0 []
def fn_deep (a : DIn) : Out := .ret (dT (deepF a))
abbrev sp_deep (K : PySem.W.Frag) : Sp := spF K en_deep pr_deep fn_deep
theorem gd_struck {al : List Nat} {m : Nat} {ls : List Wo} (h : Gd al m ls) : Gd al m (ls.map struckF) := fun l hl => by
  obtain ⟨k, hk, rfl⟩ := List.mem_map.mp hl
  exact ⟨(h k hk).1.struck, Nat.le_trans (struckF_len k) (h k hk).2⟩
theorem pow_le3 {d : Nat} (h : d ≤ 3) : 2 ^ d ≤ 8 := by
  have : ∀ d, d ≤ 3 → 2 ^ d ≤ 8 := by decide
  exact this d h
theorem one_deep {ls : List Wo} (h : ls.length = 1) : ∃ l, ls = [l] := by
  match ls, h with
  | [l], _ => exact ⟨l, rfl⟩
theorem texts_get {ls : List Wo} {k : Nat} (h : k < ls.length) : atI (ls.map dT) (k : Nat) = some (dT (ls.getD k [])) := texts_at (by rw [List.getElem?_eq_getElem h, List.getD_eq_getElem?_getD, List.getElem?_eq_getElem h] <;> rfl)
end
end Tw

/-! N57: the deep detours' defs. -/
namespace Tw
open PySem PySem.Spec PyProof.Rows L2 Sym
section
variable {P : Program} {w : World} {K : PySem.W.Frag}
theorem fit_long {i : Int} (h0 : 0 ≤ i) (h1 : i ≤ 2000) : Builtin.Range.rangeFitsLong i = true := by
  unfold Builtin.Range.rangeFitsLong
  have e1 : -(2 ^ 63 : Int) ≤ i := by omega
  have e2 : i < (2 ^ 63 : Int) := by omega
  rw [decide_eq_true e1, decide_eq_true e2] <;> rfl
theorem ei_range02 {ds : Env'} {tb : TE} {n : Nat} (h : Ev K tb ds (.int (n : Nat))) (hn : n ≤ 1000) : EvI K (iRng3 (tCons (tC (V.int 0)) (tCons tb (tCons (tC (V.int 2)) tNil)))) ds ((List.range ((n + 1) / 2)).map fun i => .int (2 * (i : Nat))) := fun F0 H0 F H σ S R q =>
  ea_cons (K := K) ev_int (ea_cons h (ea_cons ev_int ea_nil)) F0 H0 F H σ S _ fun vs F1 H1 g1 r => by
    obtain ⟨v1, r', rfl, h1, v2, r2, rfl, h2, v3, r3, rfl, h3, h4⟩ := r
    have e0 : r3 = [] := h4
    have e1 : v1 = .int 0 := h1
    have e2 : v2 = .int (n : Nat) := h2
    have e3 : v3 = .int 2 := h3
    subst e0 e1 e2 e3
    have hl : ((List.range ((n + 1) / 2)).map fun i => D.int (2 * (i : Nat))).length = (n + 1) / 2 := by simp
    have hsz : Builtin.Range.rangeSize 0 (n : Nat) 2 = (((n + 1) / 2 : Nat) : Int) := by
      unfold Builtin.Range.rangeSize
      rw [if_pos (by decide)]
      split <;> omega
    refine ⟨0, (n : Nat), 2, (n + 1) / 2, rfl, ⟨by decide, by decide, ?_, hsz⟩, q _ F1 H1 (fun _ => True) (YFn fun i => .int (0 + (i : Nat) * 2)) g1 (hl.symm ▸ walk_rangeC (lo := 0) (c := 2) (n := (n + 1) / 2)) (fun _ _ _ _ => trivial) fun i x F' H' H'' d e1 e2 hd y => ?_⟩
    · unfold Builtin.Range.small
      rw [hsz]
      rw [fit_long (i := 0) (by omega) (by omega), fit_long (i := (n : Int)) (by omega) (by omega), fit_long (i := 2) (by omega) (by omega), fit_long (i := (((n + 1) / 2 : Nat) : Int)) (by omega) (by omega), if_pos (by decide), fit_long (i := (n : Int) + (2 - 1)) (by omega) (by omega), Bool.or_true] <;> rfl
    · obtain ⟨rfl, rfl⟩ := y
      rw [List.getElem?_map] at hd
      cases e : (List.range ((n + 1) / 2))[i]? with
      | none => rw [e] at hd; cases hd
      | some m =>
        rw [e] at hd
        cases hd
        obtain ⟨_, e5⟩ := List.getElem?_eq_some_iff.mp e
        rw [List.getElem_range] at e5
        subst e5
        refine ⟨F', .refl e2, ?_⟩
        show V.int (0 + (i : Int) * 2) = V.int (2 * (i : Int))
        congr 1
        omega

theorem deep_any {al : List Nat} {ls : List Wo} {d m : Nat} (hA : Alp al) (h : ls.length = 2 ^ m) (hm : m ≤ d) (hd : d ≤ 3) (hg : Gd al (4 ^ (d - m) * 20) ls) : ls.length ≤ 8 ∧ ∀ l ∈ ls, Sgn al l ∧ l.length ≤ 2000 := by
  have h1 := pow_le3 (d := m) (by omega)
  have h2 : ∀ k, k ≤ 3 → 4 ^ k * 20 ≤ 2000 := by decide
  have h3 := h2 (d - m) (by omega)
  exact ⟨by omega, fun l hl => ⟨(hg l hl).1, Nat.le_trans (hg l hl).2 h3⟩⟩
theorem run_deepP {C : Addr} (a : DIn) (E : XK) (h : pr_deep a) : Run K E (t_deep_detour P w K E (sp_own K) (sp_struck K) C) (startE N_deep_detour (en_deep a)) (Ends' (fn_deep a)) := by
  obtain ⟨al, ws, d⟩ := a
  obtain ⟨hA, hl, hd, hg⟩ := h
  dsimp only at hA hl hd hg
  have hp8 := pow_le3 hd
  unfold t_deep_detour
  have hlen : ∀ {ds : Env'}, ds[0]? = some (some (.im (dTs ws))) → Ev K (tCB (gLen P w K) (tCons (tVar 0) tNil)) ds (.int (ws.length : Nat)) := fun e => (ev_cb (ea_cons (ev_var e) ea_nil) c_lenL).is (by rw [List.length_map])
  refine q_when (b := false) (et_test ?_) (fun hb => by cases hb) fun _ => ?_
  · have hn : ws.length = 1 ∨ ws.length = 2 ∨ ws.length = 4 ∨ ws.length = 8 := by
      have : ∀ d, d ≤ 3 → 2 ^ d = 1 ∨ 2 ^ d = 2 ∨ 2 ^ d = 4 ∨ 2 ^ d = 8 := by decide
      rw [hl]
      exact this d hd
    refine ev_op2 (hlen rfl) (ev_tup (ea_cons ev_int (ea_cons ev_int (ea_cons ev_int (ea_cons ev_int ea_nil)))) (by show 4 ≤ _; omega)) ?_
    intro F H u v e r1 r2 Q q
    obtain ⟨p, vs, rfl, hq, r3⟩ := r2
    have e1 : u = .int (ws.length : Nat) := r1
    have e2 : vs = [V.int 1, V.int 2, V.int 4, V.int 8] := rps_ints (ns := [1, 2, 4, 8]) r3
    subst e1 e2
    refine .inr (.inl ⟨p, _, rfl, .inr (Evl.ex_t e hq), rfl, rfl, q _ F H (.refl e) ?_⟩)
    rcases hn with z | z | z | z <;> rw [z] <;> rfl
  refine q_asg (d := dTs (ws.map struckF)) ?_ ?_
  · show Ev K _ _ (.lst ((ws.map struckF).map dT))
    rw [List.map_map]
    exact ev_lc0 (enc := dT) (as := ws) _ (ei_list (ev_var rfl)) (by omega) fun pre l post hs => ⟨_, gw_name, ev_call (enc := en_T) (pre := pr_T) (f := fn_struck) l (ea_cons (ev_var rfl) ea_nil) (by
      have := hg l (by rw [hs]; simp)
      exact ⟨this.1.asc, by omega⟩) rfl⟩
  let goal := deepN d (ws.map struckF)
  refine q_mid (fun ds' => le [none, some (.im (dTs goal)), none, none] ds') ?_ ?_
  · refine run_while (fun m ds' => ∃ ls, ls.length = 2 ^ m ∧ m ≤ d ∧ Gd al (4 ^ (d - m) * 20) ls ∧ deepN m ls = goal ∧ le [none, some (.im (dTs ls)), none, none] ds') d ⟨ws.map struckF, by rw [List.length_map]; exact hl, Nat.le_refl _, by rw [Nat.sub_self, Nat.pow_zero, Nat.one_mul]; exact gd_struck hg, rfl, by walk_at "sym leT"⟩ fun m ds1 hI => ?_
    obtain ⟨ls, h1, h2, h3, h4, h5⟩ := hI
    obtain ⟨h8, hall⟩ := deep_any hA h1 h2 hd h3
    have hll : ∀ {ds : Env'}, ds[1]? = some (some (.im (dTs ls))) → Ev K (tCB (gLen P w K) (tCons (tVar 1) tNil)) ds (.int (ls.length : Nat)) := fun e => (ev_cb (ea_cons (ev_var e) ea_nil) c_lenL).is (by rw [List.length_map])
    refine ⟨decide ((1 : Int) < (ls.length : Int)), EvT.le h5 (et_test (ev_op2 (hll rfl) ev_int o_gt)), fun hb => ?_, fun hb => ?_⟩
    · have hm : 0 < m := by
        cases m with
        | zero => rw [h1] at hb; exact absurd hb (by decide)
        | succ n => omega
      obtain ⟨n, rfl⟩ : ∃ n, m = n + 1 := ⟨m - 1, by omega⟩
      refine Run.le h5 (run_asg (d := dTs (levF ls)) ?_ ⟨n, by omega, levF ls, by rw [lev_len, h1, Nat.pow_succ]; omega, by omega, ?_, h4, by walk_at "sym leT"⟩)
      · have hev : ls.length = 2 * (ls.length / 2) := by rw [h1, Nat.pow_succ]; omega
        show Ev K _ _ (.lst ((levF ls).map dT))
        unfold levF
        rw [List.map_map]
        have hi := ei_range02 (K := K) (ds := [none, some (.im (dTs ls)), none, none]) (tb := tCB (gLen P w K) (tCons (tVar 1) tNil)) (n := ls.length) (hll rfl) (by omega)
        rw [show (ls.length + 1) / 2 = ls.length / 2 by omega] at hi
        refine ev_lc0 (enc := fun i : Nat => .int (2 * (i : Nat))) (as := List.range (ls.length / 2)) _ hi (by simp; omega) fun pre k post hs => ?_
        obtain ⟨_, hk⟩ := range_split hs
        obtain ⟨s1, l1⟩ := gd_get (m := 2000) hall (k := 2 * k) (by omega)
        obtain ⟨s2, l2⟩ := gd_get (m := 2000) hall (k := 2 * k + 1) (by omega)
        refine ⟨_, gw_name, ev_call (enc := en_2T) (pre := pr_2T) (f := fn_own) (ls.getD (2 * k) [], ls.getD (2 * k + 1) []) (ea_cons (ev_ix (ev_var rfl) (ev_var rfl) (o_ixL ?_)) (ea_cons (ev_ix (ev_var rfl) (ev_op2 (ev_var rfl) ev_int o_addI) (o_ixL ?_)) ea_nil)) ⟨s1.asc, by dsimp only; omega, s2.asc, by dsimp only; omega⟩ rfl⟩
        · have := texts_get (ls := ls) (k := 2 * k) (by omega)
          rw [show ((2 * k : Nat) : Int) = 2 * (k : Int) by omega] at this
          exact this
        · have := texts_get (ls := ls) (k := 2 * k + 1) (by omega)
          rw [show ((2 * k + 1 : Nat) : Int) = 2 * (k : Int) + 1 by omega] at this
          exact this
      · have := gd_lev hA h3
        rw [show d - n = d - (n + 1) + 1 by omega, Nat.pow_succ]
        intro l hl
        obtain ⟨s1, l1⟩ := this l hl
        exact ⟨s1, by omega⟩
    · have hm : m = 0 := by
        cases m with
        | zero => rfl
        | succ n =>
          have := of_decide_eq_false hb
          rw [h1, Nat.pow_succ] at this
          have := Nat.pow_pos (n := n) (show 0 < 2 by decide)
          omega
      subst hm
      have h4' : ls = goal := h4
      rw [← h4']
      exact h5
  rintro ds1 hle
  refine Run.le hle (run_ret (d := dT (goal.getD 0 [])) (ev_ix (ev_var rfl) ev_int (o_ixL (texts_get (k := 0) ?_))) rfl)
  have := deep_len d (ws.map struckF) (by rw [List.length_map]; exact hl)
  show 0 < (deepN d (ws.map struckF)).length
  omega
theorem run_lawdeep (a : DIn) (E : XK) (h : pr_deep a) : Run K E (t__law_deep P w K E (sp_struck K) (sp_undone K)) (startE N__law_deep (en_deep a)) (Ends' (fn_deep a)) := by
  obtain ⟨al, ws, d⟩ := a
  obtain ⟨hA, hl, hd, hg⟩ := h
  dsimp only at hA hl hd hg
  have hp8 := pow_le3 hd
  unfold t__law_deep
  refine q_asg (d := dTs (ws.map struckF)) ?_ ?_
  · show Ev K _ _ (.lst ((ws.map struckF).map dT))
    rw [List.map_map]
    exact ev_lc0 (enc := dT) (as := ws) _ (ei_list (ev_var rfl)) (by omega) fun pre l post hs => ⟨_, gw_name, ev_call (enc := en_T) (pre := pr_T) (f := fn_struck) l (ea_cons (ev_var rfl) ea_nil) (by
      have := hg l (by rw [hs]; simp)
      exact ⟨this.1.asc, by omega⟩) rfl⟩
  let goal := deepN d (ws.map struckF)
  refine q_mid (fun ds' => le [none, some (.im (dTs goal)), none, none, none, none, none] ds') ?_ ?_
  · refine run_forP (enc := fun i : Nat => .int (i : Nat)) (as := List.range 3) (fun pre ds' => ∃ m ls, ls.length = 2 ^ m ∧ m + pre.length = d ∧ Gd al (4 ^ (d - m) * 20) ls ∧ deepN m ls = goal ∧ le [none, some (.im (dTs ls)), none, none, none, none, none] ds' ∨ pre.length ≤ 3 ∧ d < pre.length ∧ le [none, some (.im (dTs goal)), none, none, none, none, none] ds') (ei_rangeN (n := 3) ev_int (by decide)) ⟨d, ws.map struckF, .inl ⟨by rw [List.length_map]; exact hl, rfl, by rw [Nat.sub_self, Nat.pow_zero, Nat.one_mul]; exact gd_struck hg, rfl, by walk_at "sym leT"⟩⟩ (fun pre k post ds1 hs hI => ?_) (fun ds1 hI => ?_)
    rotate_left
    · obtain ⟨m, ls, h | h⟩ := hI
      · obtain ⟨h1, h2, h3, h4, h5⟩ := h
        have hm : m = 0 := by rw [List.length_range] at h2; omega
        subst hm
        have h4' : ls = goal := h4
        rw [← h4']
        exact h5
      · exact h.2.2
    obtain ⟨m, ls, h | h⟩ := hI
    rotate_left
    · obtain ⟨q1, q2, q3⟩ := h
      have hg1 : goal.length = 1 := deep_len d (ws.map struckF) (by rw [List.length_map]; exact hl)
      refine ⟨_, EvG.le q3 eg_name, ?_⟩
      refine q_when (b := decide ((goal.length : Int) = 1)) (et_test (ev_op2 ((ev_cb (ea_cons (ev_var rfl) ea_nil) c_lenL).is (by rw [List.length_map])) ev_int o_eqI)) (fun _ => run_break (by walk_at "sym leT")) fun hb => ?_
      rw [hg1] at hb
      cases hb
    obtain ⟨h1, h2, h3, h4, h5⟩ := h
    obtain ⟨h8, hall⟩ := deep_any hA h1 (by omega) hd h3
    refine ⟨_, EvG.le h5 eg_name, ?_⟩
    have hll : ∀ {ds : Env'}, ds[1]? = some (some (.im (dTs ls))) → Ev K (tCB (gLen P w K) (tCons (tVar 1) tNil)) ds (.int (ls.length : Nat)) := fun e => (ev_cb (ea_cons (ev_var e) ea_nil) c_lenL).is (by rw [List.length_map])
    refine q_when (b := decide ((ls.length : Int) = 1)) (et_test (ev_op2 (hll rfl) ev_int o_eqI)) (fun hb => ?_) fun hb => ?_
    · have hm : m = 0 := by
        have := of_decide_eq_true hb
        cases m with
        | zero => rfl
        | succ n => rw [h1, Nat.pow_succ] at this; omega
      subst hm
      have h4' : ls = goal := h4
      refine run_break ?_
      show le _ _
      rw [← h4']
      walk_at "sym leT"
    have hm : 0 < m := by
      cases m with
      | zero => rw [h1] at hb; exact absurd hb (by decide)
      | succ n => omega
    obtain ⟨n, rfl⟩ : ∃ n, m = n + 1 := ⟨m - 1, by omega⟩
    have hev : ls.length = 2 * (ls.length / 2) := by rw [h1, Nat.pow_succ]; omega
    refine q_asg (d := .lst ((List.range (ls.length / 2)).map fun k => .tup [dT (ls.getD (2 * k) []), dT (ls.getD (2 * k + 1) [])])) ?_ ?_
    · have hdv : ((ls.length : Int) / 2) = ((ls.length / 2 : Nat) : Int) := by omega
      refine ev_lc0 (enc := fun i : Nat => .int (i : Nat)) (as := List.range (ls.length / 2)) _ (ei_rangeN ((ev_op2 (hll rfl) ev_int (o_fdiv (cdiv_of (b := 2) (by decide) (by decide) (by decide)))).is (by rw [hdv])) (by omega)) (by simp; omega) fun pre k post hs => ?_
      obtain ⟨_, hk⟩ := range_split hs
      have cm : CMulW 2 (k : Int) := cmul_of (a := 2) (b := 10) (by decide) (by omega) (by omega)
      refine ⟨_, gw_name, ev_tup (ea_cons (ev_ix (ev_var rfl) (ev_op2 ev_int (ev_var rfl) (o_mul cm)) (o_ixL ?_)) (ea_cons (ev_ix (ev_var rfl) (ev_op2 (ev_op2 ev_int (ev_var rfl) (o_mul cm)) ev_int o_addI) (o_ixL ?_)) ea_nil)) (by show 2 ≤ _; omega)⟩
      · have := texts_get (ls := ls) (k := 2 * k) (by omega)
        rw [show ((2 * k : Nat) : Int) = 2 * (k : Int) by omega] at this
        exact this
      · have := texts_get (ls := ls) (k := 2 * k + 1) (by omega)
        rw [show ((2 * k + 1 : Nat) : Int) = 2 * (k : Int) + 1 by omega] at this
        exact this
    refine run_asg (d := dTs (levF ls)) ?_ ⟨n, levF ls, .inl ⟨by rw [lev_len, h1, Nat.pow_succ]; omega, by rw [List.length_append]; simp; omega, ?_, h4, by walk_at "sym leT"⟩⟩
    · show Ev K _ _ (.lst ((levF ls).map dT))
      unfold levF
      rw [List.map_map]
      refine ev_lc0 (enc := fun k : Nat => .tup [dT (ls.getD (2 * k) []), dT (ls.getD (2 * k + 1) [])]) (as := List.range (ls.length / 2)) _ (ei_list (ev_var rfl)) (by simp; omega) fun pre k post hs => ?_
      obtain ⟨_, hk⟩ := range_split hs
      obtain ⟨s1, l1⟩ := gd_get (m := 2000) hall (k := 2 * k) (by omega)
      obtain ⟨s2, l2⟩ := gd_get (m := 2000) hall (k := 2 * k + 1) (by omega)
      refine ⟨_, gw_name, ?_⟩
      show Ev K _ _ (dT (ownF (ls.getD (2 * k) []) (ls.getD (2 * k + 1) [])))
      generalize ls.getD (2 * k) [] = x at *
      generalize ls.getD (2 * k + 1) [] = y at *
      have u1 := undF_len x
      have u2 := undF_len y
      have p0 : ∀ {ds : Env'}, ds[6]? = some (some (.im (.tup [dT x, dT y]))) → Ev K (tIx P w K (tVar 6) (tC (V.int 0))) ds (dT x) := fun e => ev_ix (ev_var e) ev_int (o_ixT rfl)
      have p1 : ∀ {ds : Env'}, ds[6]? = some (some (.im (.tup [dT x, dT y]))) → Ev K (tIx P w K (tVar 6) (tC (V.int 1))) ds (dT y) := fun e => ev_ix (ev_var e) ev_int (o_ixT rfl)
      exact ev_call (enc := en_T) (pre := pr_T) (f := fn_struck) (x ++ y ++ undF x ++ undF y) (ea_cons (ev_op2 (ev_op2 (ev_op2 (p0 rfl) (p1 rfl) (o_addSs (by omega))) (ev_call (enc := en_T) (pre := pr_T) (f := fn_undone) x (ea_cons (p0 rfl) ea_nil) ⟨s1.asc, by omega⟩ rfl) (o_addSs (by simp only [List.length_append]; omega))) (ev_call (enc := en_T) (pre := pr_T) (f := fn_undone) y (ea_cons (p1 rfl) ea_nil) ⟨s2.asc, by omega⟩ rfl) (o_addSs (by simp only [List.length_append]; omega))) ea_nil) ⟨((s1.asc.app s2.asc).app (undF_asc s1.asc)).app (undF_asc s2.asc), by simp only [List.length_append]; omega⟩ rfl
    · have := gd_lev hA h3
      rw [show d - n = d - (n + 1) + 1 by omega, Nat.pow_succ]
      intro l hl
      obtain ⟨s1, l1⟩ := this l hl
      exact ⟨s1, by omega⟩
  rintro ds1 hle
  refine Run.le hle (run_ret (d := dT (goal.getD 0 [])) (ev_ix (ev_var rfl) ev_int (o_ixL (texts_get (k := 0) ?_))) rfl)
  have := deep_len d (ws.map struckF) (by rw [List.length_map]; exact hl)
  show 0 < (deepN d (ws.map struckF)).length
  omega
end
end Tw

set_option maxHeartbeats 8000000
/-! L57: the law deep_detours, walked by data. -/
namespace Tw
open PySem PySem.Spec PyProof.Rows L2 Sym
theorem dig3 (n : Int) {a b c : Int} (ha : 0 < a) (hb : 0 < b) (hc : 0 < c) : ∃ x y z, digF n [a, b, c] = [x, y, z] ∧ (0 ≤ x ∧ x < a) ∧ (0 ≤ y ∧ y < b) ∧ (0 ≤ z ∧ z < c) := by
  have hl := digF_len n [a, b, c]
  obtain ⟨x, h0, x1⟩ := digF_get n [a, b, c] 0 a rfl ha
  obtain ⟨y, h1, y1⟩ := digF_get n [a, b, c] 1 b rfl hb
  obtain ⟨z, h2, z1⟩ := digF_get n [a, b, c] 2 c rfl hc
  refine ⟨x, y, z, ?_, x1, y1, z1⟩
  generalize digF n [a, b, c] = l at *
  match l, hl with
  | [p, q, r], _ =>
    cases h0; cases h1; cases h2
    rfl
section
variable {P : Program} {w : World} {K : PySem.W.Frag}
/-! ### _law_eight -/
structure EIn where
  ns : List Int
  at' : Nat
  al : List Nat
  dep : Nat
def rowE (a : EIn) (k : Nat) : List Int := digF (cellF a.ns (a.at' + k)) [2, 24, 24]
def manyE (a : EIn) (k : Nat) : Nat := (1 + (rowE a k).getD 0 0 * (if decide ((a.dep : Int) < 3) = true then 1 else 0)).toNat
def eightW (a : EIn) (k : Nat) : Wo :=
  let word := wordF a.al ((rowE a k).drop 1) (manyE a k)
  if word.length = 1 ∧ 1 < a.al.length then wordF ([a.al.take 1, a.al.drop 1].getD (k % 2) []) ((rowE a k).drop 1) 1 else word
def eightF (a : EIn) : List Wo := (List.range 8).map (eightW a)
def en_eight (a : EIn) : List D := [dInts a.ns, .int (a.at' : Nat), dT a.al, .int (a.dep : Nat)]
def pr_eight (a : EIn) : Prop := Alp a.al ∧ a.ns.length ≤ 1000 ∧ a.at' ≤ 1000
def fn_eight (a : EIn) : Out := .ret (dTs (eightF a))
abbrev sp_eight (K : PySem.W.Frag) : Sp := spF K en_eight pr_eight fn_eight
theorem alp_take {al : List Nat} (h : Alp al) (hl : 1 < al.length) : Alp (al.take 1) := ⟨fun c hc => h.low c (List.mem_of_mem_take hc), h.up.sublist (List.take_sublist 1 al), by rw [List.length_take]; omega, by rw [List.length_take]; omega⟩
theorem alp_drop {al : List Nat} (h : Alp al) (hl : 1 < al.length) : Alp (al.drop 1) := ⟨fun c hc => h.low c (List.mem_of_mem_drop hc), h.up.sublist (List.drop_sublist 1 al), by rw [List.length_drop]; omega, by rw [List.length_drop]; have := h.four; omega⟩
theorem sgn_sub {al bl l : List Nat} (h : Sgn bl l) (hs : ∀ c ∈ bl, c ∈ al) : Sgn al l := fun c hc => ⟨(h c hc).1, hs _ (h c hc).2⟩
theorem letE {al : List Nat} (h : Alp al) (hl : 1 < al.length) (k : Nat) : ∃ bl, [al.take 1, al.drop 1][k % 2]? = some bl ∧ [al.take 1, al.drop 1].getD (k % 2) [] = bl ∧ Alp bl ∧ ∀ c ∈ bl, c ∈ al := by
  have hk : k % 2 = 0 ∨ k % 2 = 1 := by omega
  rcases hk with e | e
  · exact ⟨al.take 1, by rw [e] <;> rfl, by rw [e] <;> rfl, alp_take h hl, fun c hc => List.mem_of_mem_take hc⟩
  · exact ⟨al.drop 1, by rw [e] <;> rfl, by rw [e] <;> rfl, alp_drop h hl, fun c hc => List.mem_of_mem_drop hc⟩
theorem rowE_3 (a : EIn) (k : Nat) : ∃ x y z, rowE a k = [x, y, z] ∧ (x = 0 ∨ x = 1) := by
  obtain ⟨x, y, z, h, h1, _, _⟩ := dig3 (cellF a.ns (a.at' + k)) (a := 2) (b := 24) (c := 24) (by decide) (by decide) (by decide)
  exact ⟨x, y, z, h, by omega⟩
theorem manyE_le (a : EIn) (k : Nat) : manyE a k ≤ 2 := by
  obtain ⟨x, y, z, h, hx⟩ := rowE_3 a k
  unfold manyE
  rw [h]
  show (1 + x * _).toNat ≤ 2
  rcases hx with rfl | rfl <;> split <;> decide
theorem eight_ok {a : EIn} (hA : Alp a.al) (k : Nat) : Sgn a.al (eightW a k) ∧ (eightW a k).length ≤ 2 := by
  unfold eightW
  dsimp only
  split
  · next h =>
    obtain ⟨bl, _, e, hb, hs⟩ := letE hA h.2 k
    rw [e]
    exact ⟨sgn_sub (Sgn.word hb) hs, by rw [wordF_len]; omega⟩
  · exact ⟨Sgn.word hA, by rw [wordF_len]; exact manyE_le a k⟩
theorem run_eight (a : EIn) (E : XK) (h : pr_eight a) : Run K E (t__law_eight P w K E (sp_word K) (sp_digits K) (sp_cell K)) (startE N__law_eight (en_eight a)) (Ends' (fn_eight a)) := by
  obtain ⟨hA, h1, h2⟩ := h
  have hal1 := hA.one
  have hal4 := hA.four
  unfold t__law_eight
  refine q_newL ea_nil (by decide) ?_
  refine run_seq ?_
  refine run_for (enc := fun i : Nat => .int (i : Nat)) (as := List.range 8) (fun pre => [some (.im (dInts a.ns)), some (.im (.int (a.at' : Nat))), some (.im (dT a.al)), some (.im (.int (a.dep : Nat))), some (.ml (((List.range pre.length).map (eightW a)).map dT)), none, none, none, none]) (fun _ => True) (ei_rangeN (n := 8) ev_int (by decide)) (by walk_at "sym leT") trivial (fun pre k post hs _ => ?_) (fun _ => ?_)
  rotate_left
  · refine run_retL (i := 4) rfl ?_
    show fn_eight a = Out.ret _
    unfold fn_eight eightF
    rw [List.length_range]
  obtain ⟨rfl, hk⟩ := range_split hs
  rw [List.length_append, List.length_range]
  refine ⟨_, eg_name, ?_⟩
  refine q_asg (d := dInts (rowE a k)) (ev_dig (ev_cell (k := a.at' + k) rfl ((ev_op2 (ev_var rfl) (ev_var rfl) o_addI).is (by show D.int ((a.at' : Int) + (k : Int)) = D.int ((a.at' + k : Nat) : Int); congr 1)) h1 (by omega)) (ev_lst (ea_cons ev_int (ea_cons ev_int (ea_cons ev_int ea_nil))) (by decide)) (by decide) (by decide)) ?_
  obtain ⟨x, y, z, hrow, hx⟩ := rowE_3 a k
  have hcut : ∀ {ds : Env'}, ds[6]? = some (some (.im (dInts (rowE a k)))) → Ev K (tSl (gSl K) (tVar 6) (tPart (tC (V.int 1))) tNoPart) ds (dInts ((rowE a k).drop 1)) := fun e => by
    show Ev K _ _ (.lst (((rowE a k).drop 1).map D.int))
    have q := cut_drop ((rowE a k).map D.int) 1
    rw [List.map_drop, ← q]
    exact ev_sl (ev_var e) (eo_some ev_int) eo_none o_slL
  have hdl : ((rowE a k).drop 1).length = 2 := by rw [hrow] <;> rfl
  have hml := manyE_le a k
  have hmany : ((manyE a k : Nat) : Int) = 1 + x * (if decide ((a.dep : Int) < 3) = true then 1 else 0) := by
    unfold manyE
    rw [hrow]
    show (((1 + x * _).toNat : Nat) : Int) = _
    rcases hx with rfl | rfl <;> split <;> decide
  refine q_asg (d := dT (wordF a.al ((rowE a k).drop 1) (manyE a k))) (ev_call (enc := en_word) (pre := pr_word) (f := fn_word) (a.al, (rowE a k).drop 1, manyE a k) (ea_cons (ev_var rfl) (ea_cons (hcut rfl) (ea_cons ((ev_op2 ev_int (ev_op2 (ev_ix (ev_var rfl) ev_int (o_ixL (d := .int x) (by rw [hrow] <;> rfl))) (ev_cb (ea_cons (ev_op2 (ev_var rfl) ev_int o_ltI) ea_nil) c_intB) (o_mul ?_)) o_addI).is (by rw [hmany])) ea_nil))) ⟨hA.asc, hal1, by dsimp only; omega, by dsimp only; omega, by dsimp only; omega⟩ rfl) ?_
  · have hx2 : x.natAbs < 2 ^ 2 := by rcases hx with rfl | rfl <;> decide
    split
    · exact cmul_of (a := 2) (b := 2) hx2 (by decide) (by decide)
    · exact cmul_of (a := 2) (b := 2) hx2 (by decide) (by decide)
  let wd := wordF a.al ((rowE a k).drop 1) (manyE a k)
  have hwl : wd.length ≤ 2 := by show (wordF _ _ _).length ≤ 2; rw [wordF_len]; exact hml
  refine q_mid (fun ds' => le [some (.im (dInts a.ns)), some (.im (.int (a.at' : Nat))), some (.im (dT a.al)), some (.im (.int (a.dep : Nat))), some (.ml (((List.range k).map (eightW a)).map dT)), none, none, some (.im (dT (eightW a k))), none] ds') ?_ ?_
  · refine run_if (b := decide ((wd.length : Int) = 1) && decide ((1 : Int) < (a.al.length : Int))) (et_and (et_test (ev_op2 (ev_cb (ea_cons (ev_var rfl) ea_nil) (c_lenSs (l := wd) (by omega))) ev_int o_eqI)) fun _ => et_test (ev_op2 (ev_cb (ea_cons (ev_var rfl) ea_nil) (c_lenSs (l := a.al) (by omega))) ev_int o_gt)) (fun hb => ?_) fun hb => ?_
    · obtain ⟨b1, b2⟩ := Bool.and_eq_true_iff.mp hb
      have c1 : wd.length = 1 := by have := of_decide_eq_true b1; omega
      have c2 : 1 < a.al.length := by have := of_decide_eq_true b2; omega
      obtain ⟨bl, e1, e2, hB, hsub⟩ := letE hA c2 k
      have hb4 := hB.four
      have ew : eightW a k = wordF bl ((rowE a k).drop 1) 1 := by
        show (if wd.length = 1 ∧ 1 < a.al.length then _ else _) = _
        rw [if_pos ⟨c1, c2⟩, e2]
      have k2 : ((k : Int) % 2) = ((k % 2 : Nat) : Int) := by omega
      have t1 : ∀ {ds : Env'}, ds[2]? = some (some (.im (dT a.al))) → Ev K (tSl (gSl K) (tVar 2) tNoPart (tPart (tC (V.int 1)))) ds (dT (a.al.take 1)) := fun e => by
        have q := cut_take a.al 1
        rw [← q]
        exact ev_sl (ev_var e) eo_none (eo_some ev_int) (o_slSs (by omega))
      have t2 : ∀ {ds : Env'}, ds[2]? = some (some (.im (dT a.al))) → Ev K (tSl (gSl K) (tVar 2) (tPart (tC (V.int 1))) tNoPart) ds (dT (a.al.drop 1)) := fun e => by
        have q := cut_drop a.al 1
        rw [← q]
        exact ev_sl (ev_var e) (eo_some ev_int) eo_none (o_slSs (by omega))
      refine q_asg (d := dT bl) (ev_ix (x := dTs [a.al.take 1, a.al.drop 1]) (ev_lst (ea_cons (t1 rfl) (ea_cons (t2 rfl) ea_nil)) (by show 2 ≤ _; omega)) ((ev_op2 (ev_var rfl) ev_int (o_mod (by decide))).is (by rw [k2])) (o_ixL (texts_at e1))) ?_
      refine run_asg (d := dT (eightW a k)) ?_ (by walk_at "sym leT")
      rw [ew]
      exact ev_call (enc := en_word) (pre := pr_word) (f := fn_word) (bl, (rowE a k).drop 1, 1) (ea_cons (ev_var rfl) (ea_cons (hcut rfl) (ea_cons ev_int ea_nil))) ⟨hB.asc, hB.one, by dsimp only; omega, by dsimp only; omega, by dsimp only; omega⟩ rfl
    · refine run_next ?_
      have ew : eightW a k = wd := by
        show (if wd.length = 1 ∧ 1 < a.al.length then _ else _) = _
        rw [if_neg (fun ⟨c1, c2⟩ => by
          have d1 : decide ((wd.length : Int) = 1) = true := decide_eq_true (by omega)
          have d2 : decide ((1 : Int) < (a.al.length : Int)) = true := decide_eq_true (by omega)
          rw [d1, d2] at hb
          cases hb)]
      show le _ _
      rw [ew]
      walk_at "sym leT"
  rintro ds1 hle
  refine Run.le hle (run_append (i := 4) rfl (d := dT (eightW a k)) (ev_var rfl) (by simp; omega) ?_)
  rw [show [k].length = 1 by rfl, List.range_succ, List.map_append, List.map_append]
  exact ⟨by walk_at "sym leT", trivial⟩
theorem oneB_true {al u v : List Nat} {s : Nat} (hu : Sgn al u) (hv : Sgn al v) (h : Rl s u v) : oneB al u v s = true := by
  unfold oneB
  rw [Rl.ends hu hv h, decide_eq_true rfl]
theorem repr_len {l : List Nat} (h : Asc l) (hl : l.length ≤ 100000) : (reprText (S' l)).length ≤ 16777216 := by
  have := StrLaws.reprText_len (S' l) (fun c hc => by have := h c hc; omega)
  rw [s_len l] at this
  omega
theorem run_law57 (ns : List Int) (E : XK) (h : pr_law ns) : Run K E (t_law_K57 P w K E (sp_one K) (sp_undone K) (sp_one K) (sp_word K) (sp_digits K) (sp_cell K) (sp_deep K) (sp_deep K) (sp_eight K) (sp_alphabet K)) (startE N_law_K57 (en_law ns)) (Ends' (fn_true ns)) := by
  have h63 : ns.length ≤ 63 := h
  unfold t_law_K57
  -- the alphabet
  obtain ⟨a, b, c, d, hdig, ha, hb, hc, hd⟩ := dig4 (cellF ns 0) (a := 8) (b := 9) (c := 8) (d := 7) (by decide) (by decide) (by decide) (by decide)
  have hpr : pr_alphabet (a, b, c, d) := ⟨hb.1, hb.2, hc.1, hc.2, hd.1, hd.2⟩
  refine q_asg (d := dT (alF (a, b, c, d))) (ev_call (enc := en_alphabet) (pre := pr_alphabet) (f := fn_alphabet) (a, b, c, d) (ea_cons ?_ ea_nil) hpr rfl) ?_
  · show Ev K _ _ (dInts [a, b, c, d])
    rw [← hdig]
    exact ev_dig (ev_cell (k := 0) rfl ev_int (by omega) (by omega)) (ev_lst (ea_cons ev_int (ea_cons ev_int (ea_cons ev_int (ea_cons ev_int ea_nil)))) (by decide)) (by decide) (by decide)
  generalize hal : alF (a, b, c, d) = al0
  refine q_mid (fun ds' => ∃ al, Al2 al ∧ le [some (.im (dInts ns)), some (.im (dT al)), none, none, none, none, none, none, none, none, none, none] ds') ?_ ?_
  · refine run_if (b := decide ((al0.length : Int) = 3) && decide (cellF ns 0 % 2 = 0)) (et_and (et_test (ev_op2 (ev_cb (ea_cons (ev_var rfl) ea_nil) (c_lenSs (l := al0) (by rw [← hal]; have := (alF_ok hpr).four; omega))) ev_int o_eqI)) fun _ => et_test (ev_op2 (ev_op2 (ev_cb (ea_cons (ev_cell (k := 0) rfl ev_int (by omega) (by omega)) ea_nil) c_int) ev_int (o_mod (by decide))) ev_int o_eqI)) (fun hb => ?_) fun hb => ?_
    · obtain ⟨b1, _⟩ := Bool.and_eq_true_iff.mp hb
      have h3 : al0.length = 3 := by have := of_decide_eq_true b1; omega
      refine run_asg (d := dT (al0 ++ [122])) (ev_op2 (ev_var rfl) ev_str (o_addSs (l := al0) (m := [122]) (by rw [h3]; decide))) ⟨al0 ++ [122], ?_, by walk_at "sym leT"⟩
      rw [← hal] at h3 ⊢
      exact al2_z hpr h3
    · exact run_next ⟨al0, by rw [← hal]; exact al2_of hpr, by walk_at "sym leT"⟩
  rintro ds0 ⟨al, hA2, hle⟩
  refine Run.le hle ?_
  have hA := hA2.ok
  have hal4 := hA.four
  -- the shape, the depth
  obtain ⟨s0, s1, s2, hsh, b0, b1, b2⟩ := dig3 (cellF ns 1) (a := 12) (b := 4) (c := 4) (by decide) (by decide) (by decide)
  refine q_asg (d := dInts [s0, s1, s2]) ?_ ?_
  · rw [← hsh]
    exact ev_dig (ev_cell (k := 1) rfl ev_int (by omega) (by omega)) (ev_lst (ea_cons ev_int (ea_cons ev_int (ea_cons ev_int ea_nil))) (by decide)) (by decide) (by decide)
  let dps : List Int := [1, 1, 1, 1, 2, 2, 2, 2, 2, 2, 3, 3]
  obtain ⟨dep, hdep, d1, d3⟩ : ∃ dep : Nat, dps[s0.toNat]? = some (dep : Int) ∧ 1 ≤ dep ∧ dep ≤ 3 := by
    have hi : s0.toNat < 12 := by omega
    have : ∀ i, i < 12 → ∃ dep : Nat, dps[i]? = some (dep : Int) ∧ 1 ≤ dep ∧ dep ≤ 3 := by
      intro i hi
      match i, hi with
      | 0, _ | 1, _ | 2, _ | 3, _ => exact ⟨1, rfl, by omega, by omega⟩
      | 4, _ | 5, _ | 6, _ | 7, _ | 8, _ | 9, _ => exact ⟨2, rfl, by omega, by omega⟩
      | 10, _ | 11, _ => exact ⟨3, rfl, by omega, by omega⟩
    exact this _ hi
  refine q_asg (d := .int (dep : Nat)) (ev_ix (x := dInts dps) (ev_lst (ea_cons ev_int (ea_cons ev_int (ea_cons ev_int (ea_cons ev_int (ea_cons ev_int (ea_cons ev_int (ea_cons ev_int (ea_cons ev_int (ea_cons ev_int (ea_cons ev_int (ea_cons ev_int (ea_cons ev_int ea_nil)))))))))))) (by decide)) (ev_ix (ev_var rfl) ev_int (o_ixL (d := .int s0) rfl)) (o_ixL (atI_to b0.1 (by rw [List.getElem?_map, hdep] <;> rfl)))) ?_
  -- words
  let ei : EIn := ⟨ns, 2, al, dep⟩
  let ws := eightF ei
  have hws8 : ws.length = 8 := by show ((List.range 8).map _).length = 8; simp
  have hwsg : Gd al 2 ws := fun l hl => by
    obtain ⟨k, _, rfl⟩ := List.mem_map.mp (show l ∈ (List.range 8).map (eightW ei) from hl)
    exact eight_ok (a := ei) hA k
  refine q_asg (d := dTs ws) (ev_call (enc := en_eight) (pre := pr_eight) (f := fn_eight) ei (ea_cons (ev_var rfl) (ea_cons ev_int (ea_cons (ev_var rfl) (ea_cons (ev_var rfl) ea_nil)))) ⟨hA, by show ns.length ≤ 1000; omega, by show 2 ≤ 1000; omega⟩ rfl) ?_
  have hp2 : 2 ^ dep ≤ 8 ∧ ([2, 4, 8] : List Int)[dep - 1]? = some ((2 ^ dep : Nat) : Int) := by
    match dep, d1, d3 with
    | 1, _, _ => exact ⟨by decide, rfl⟩
    | 2, _, _ => exact ⟨by decide, rfl⟩
    | 3, _, _ => exact ⟨by decide, rfl⟩
  have hdm : ((dep : Int) - 1) = ((dep - 1 : Nat) : Int) := by omega
  refine q_asg (d := .int ((2 ^ dep : Nat) : Nat)) (ev_ix (x := dInts [2, 4, 8]) (ev_lst (ea_cons ev_int (ea_cons ev_int (ea_cons ev_int ea_nil))) (by decide)) ((ev_op2 (ev_var rfl) ev_int o_sub).is (by rw [hdm])) (o_ixL (atI_map (atI_of hp2.2)))) ?_
  -- one, two
  have tk : ∀ {ds : Env'} {te : TE} {ls : List Wo}, Ev K te ds (dTs ls) → ds[5]? = some (some (.im (.int ((2 ^ dep : Nat) : Nat)))) → Ev K (tSl (gSl K) te tNoPart (tPart (tVar 5))) ds (dTs (ls.take (2 ^ dep))) := fun {ds te ls} h e => by
    show Ev K _ _ (.lst ((ls.take (2 ^ dep)).map dT))
    have q := cut_take (ls.map dT) (2 ^ dep)
    rw [List.map_take, ← q]
    exact ev_sl h eo_none (eo_some (ev_var e)) o_slL
  have rv : ∀ {ds : Env'}, ds[4]? = some (some (.im (dTs ws))) → Ev K (tRevG K (tVar 4)) ds (dTs ws.reverse) := fun e => by
    show Ev K _ _ (.lst (ws.reverse.map dT))
    rw [List.map_reverse]
    exact ev_revL (ev_var e)
  let a1 : DIn := ⟨al, ws.take (2 ^ dep), dep⟩
  let a2 : DIn := ⟨al, ws.reverse.take (2 ^ dep), dep⟩
  have p1 : pr_deep a1 := ⟨hA, by show (ws.take (2 ^ dep)).length = 2 ^ dep; rw [List.length_take, hws8]; omega, d3, fun l hl => by
    obtain ⟨q1, q2⟩ := hwsg l (List.mem_of_mem_take hl)
    exact ⟨q1, by omega⟩⟩
  have p2 : pr_deep a2 := ⟨hA, by show (ws.reverse.take (2 ^ dep)).length = 2 ^ dep; rw [List.length_take, List.length_reverse, hws8]; omega, d3, fun l hl => by
    obtain ⟨q1, q2⟩ := hwsg l (List.mem_reverse.mp (List.mem_of_mem_take hl))
    exact ⟨q1, by omega⟩⟩
  have deepok : ∀ a : DIn, pr_deep a → Sgn a.al (deepF a) ∧ (deepF a).length ≤ 1280 ∧ Rl a.d (deepF a) [] := fun a hp => by
    obtain ⟨x1, x2, x3, x4⟩ := hp
    have hl := deep_len a.d (a.ws.map struckF) (by rw [List.length_map]; exact x2)
    have hm : deepF a ∈ deepN a.d (a.ws.map struckF) := by
      unfold deepF
      rw [List.getD_eq_getElem?_getD, List.getElem?_eq_getElem (by omega)]
      exact List.getElem_mem _
    obtain ⟨y1, y2⟩ := gd_deep x1 a.d 20 _ (gd_struck x4) _ hm
    have h4 : ∀ k, k ≤ 3 → 4 ^ k * 20 ≤ 1280 := by decide
    refine ⟨y1, Nat.le_trans y2 (h4 _ x3), ?_⟩
    have := rl_deep x1 a.d 0 20 _ (gd_struck x4) (fun _ _ => trivial) _ hm
    rw [Nat.zero_add] at this
    exact this
  obtain ⟨so, lo, ro⟩ := deepok a1 p1
  obtain ⟨st, lt, rt⟩ := deepok a2 p2
  refine q_asg (d := dT (deepF a1)) (ev_call (enc := en_deep) (pre := pr_deep) (f := fn_deep) a1 (ea_cons (tk (ev_var rfl) rfl) ea_nil) p1 rfl) ?_
  refine q_asg (d := dT (deepF a2)) (ev_call (enc := en_deep) (pre := pr_deep) (f := fn_deep) a2 (ea_cons (tk (rv rfl) rfl) ea_nil) p2 rfl) ?_
  have ld1 : ∀ {ds : Env'}, ds[4]? = some (some (.im (dTs ws))) → ds[5]? = some (some (.im (.int ((2 ^ dep : Nat) : Nat)))) → Ev K (tCall (sp_deep K) [] E (tCons (tSl (gSl K) (tVar 4) tNoPart (tPart (tVar 5))) tNil)) ds (dT (deepF a1)) := fun e1 e2 => ev_call (enc := en_deep) (pre := pr_deep) (f := fn_deep) a1 (ea_cons (tk (ev_var e1) e2) ea_nil) p1 rfl
  have ld2 : ∀ {ds : Env'}, ds[4]? = some (some (.im (dTs ws))) → ds[5]? = some (some (.im (.int ((2 ^ dep : Nat) : Nat)))) → Ev K (tCall (sp_deep K) [] E (tCons (tSl (gSl K) (tRevG K (tVar 4)) tNoPart (tPart (tVar 5))) tNil)) ds (dT (deepF a2)) := fun e1 e2 => ev_call (enc := en_deep) (pre := pr_deep) (f := fn_deep) a2 (ea_cons (tk (rv e1) e2) ea_nil) p2 rfl
  change Sgn al (deepF a1) at so
  change Sgn al (deepF a2) at st
  change Rl dep (deepF a1) [] at ro
  change Rl dep (deepF a2) [] at rt
  generalize deepF a1 = one at *
  generalize deepF a2 = two at *
  have r1 := c_reprS (K := K) (repr_len so.asc (by omega))
  have r2 := c_reprS (K := K) (repr_len st.asc (by omega))
  refine q_when (b := (!decide (reprText (S' one) = reprText (S' one))) || (!decide (reprText (S' two) = reprText (S' two)))) (et_or (et_test (ev_op2 (ev_cb (ea_cons (ev_var rfl) ea_nil) r1) (ev_cb (ea_cons (ld1 rfl rfl) ea_nil) r1) o_neS)) fun _ => et_test (ev_op2 (ev_cb (ea_cons (ev_var rfl) ea_nil) r2) (ev_cb (ea_cons (ld2 rfl rfl) ea_nil) r2) o_neS)) (fun hb => ?_) fun _ => ?_
  · rw [decide_eq_true rfl, decide_eq_true rfl] at hb
    cases hb
  -- by
  have e1 : s1 = ((s1.toNat : Nat) : Int) := by omega
  let by' := wordF al (digF (cellF ns 10) [24, 24, 24]) s1.toNat
  have sby : Sgn al by' := Sgn.word hA
  have lby : by'.length ≤ 3 := by show (wordF _ _ _).length ≤ 3; rw [wordF_len]; omega
  refine q_asg (d := dT by') (ev_call (enc := en_word) (pre := pr_word) (f := fn_word) (al, digF (cellF ns 10) [24, 24, 24], s1.toNat) (ea_cons (ev_var rfl) (ea_cons (ev_dig (bs := [24, 24, 24]) (ev_cell (k := 10) rfl ev_int (by omega) (by omega)) (ev_lc0 (enc := fun i : Nat => .int (i : Nat)) (as := List.range 3) (fun _ => .int 24) (ei_rangeN (n := 3) ev_int (by decide)) (by decide) fun pre i post hs => ⟨_, gw_name, ev_int⟩) (by decide) (by decide)) (ea_cons ((ev_ix (ev_var rfl) ev_int (o_ixL (d := .int s1) rfl)).is (by rw [← e1])) ea_nil))) ⟨hA.asc, hA.one, by dsimp only; omega, by dsimp only; rw [digF_len]; show s1.toNat ≤ 3; omega, by dsimp only; omega⟩ rfl) ?_
  generalize by' = by1 at *
  let ub := undF by1
  have sub : Sgn al ub := sby.und hA
  have lub : ub.length ≤ 3 := by show (undF _).length ≤ 3; rw [undF_len]; exact lby
  -- the rules asked
  have at1 : ∀ {ds : Env'} {tb tc td : TE} {u v : Wo} {s : Nat}, ds[1]? = some (some (.im (dT al))) → Ev K tb ds (dT u) → Ev K tc ds (dT v) → Ev K td ds (.int (s : Nat)) → Sgn al u → Sgn al v → u.length ≤ 9000 → v.length ≤ 9000 → s ≤ 10 →
      Ev K (tCall (sp_one K) [] E0 (tCons (tVar 1) (tCons tb (tCons tc (tCons td tNil))))) ds (.bl (oneB al u v s)) := fun {ds tb tc td u v s} e h2 h3 h4 q1 q2 q3 q4 q5 =>
    ev_call (enc := en_one) (pre := pr_one) (f := fn_one) ⟨al, u, v, s⟩ (ea_cons (ev_var e) (ea_cons h2 (ea_cons h3 (ea_cons h4 ea_nil)))) ⟨hA, q1, q2, by dsimp only; omega, by dsimp only; omega, by dsimp only; omega⟩ rfl
  have lw1 : ∀ {ds : Env'} {tb tc td : TE} {u v : Wo} {s : Nat}, ds[1]? = some (some (.im (dT al))) → Ev K tb ds (dT u) → Ev K tc ds (dT v) → Ev K td ds (.int (s : Nat)) → Sgn al u → Sgn al v → u.length ≤ 9000 → v.length ≤ 9000 → s ≤ 10 →
      Ev K (tCall (sp_one K) [] E (tCons (tVar 1) (tCons tb (tCons tc (tCons td tNil))))) ds (.bl (oneB al u v s)) := fun {ds tb tc td u v s} e h2 h3 h4 q1 q2 q3 q4 q5 =>
    ev_call (enc := en_one) (pre := pr_one) (f := fn_one) ⟨al, u, v, s⟩ (ea_cons (ev_var e) (ea_cons h2 (ea_cons h3 (ea_cons h4 ea_nil)))) ⟨hA, q1, q2, by dsimp only; omega, by dsimp only; omega, by dsimp only; omega⟩ rfl
  have ad : ∀ {ds : Env'} {ta tb : TE} {l m : List Nat}, Ev K ta ds (dT l) → Ev K tb ds (dT m) → l.length ≤ 8000 → m.length ≤ 8000 → Ev K (tOp (gAdd K) ta tb) ds (dT (l ++ m)) := fun h1 h2 h3 h4 => ev_op2 h1 h2 (o_addSs (by omega))
  have un : ∀ {ds : Env'}, ds[8]? = some (some (.im (dT by1))) → Ev K (tCall (sp_undone K) [] E (tCons (tVar 8) tNil)) ds (dT ub) := fun e => ev_call (enc := en_T) (pre := pr_T) (f := fn_undone) by1 (ea_cons (ev_var e) ea_nil) ⟨sby.asc, by omega⟩ rfl
  have sn : Sgn al [] := .nil
  have up1' : ∀ {ds : Env'}, ds[3]? = some (some (.im (.int (dep : Nat)))) → Ev K (tOp (gAdd K) (tVar 3) (tC (V.int 1))) ds (.int ((dep + 1 : Nat) : Nat)) := fun e => (ev_op2 (ev_var e) ev_int o_addI).is (by show D.int ((dep : Int) + 1) = D.int ((dep + 1 : Nat) : Int); congr 1)
  -- by one by' is nothing
  have rbo : Rl dep (by1 ++ one ++ ub) [] := by
    have k1 : Rl dep (by1 ++ one) by1 := by have := ro.left by1; rw [List.append_nil] at this; exact this
    exact (k1.right ub).trans (Rl.undo hA dep sby)
  have lbo : (by1 ++ one ++ ub).length ≤ 2000 := by simp only [List.length_append]; omega
  have sbo : Sgn al (by1 ++ one ++ ub) := (sby.app so).app sub
  have T1 : oneB al one [] dep = true := oneB_true so sn ro
  have T2 : oneB al (by1 ++ one ++ ub) [] dep = true := oneB_true sbo sn rbo
  refine q_when (b := (!decide (oneB al one [] dep = true)) || (!decide (oneB al (by1 ++ one ++ ub) [] dep = true))) (et_or (et_test (ev_op2 (at1 rfl (ev_var rfl) ev_str (ev_var rfl) so sn (by omega) (by decide) (by omega)) ev_bl o_notB)) fun _ => et_test (ev_op2 (at1 rfl (ad (ad (ev_var rfl) (ev_var rfl) (by omega) (by omega)) (un rfl) (by simp only [List.length_append]; omega) (by omega)) ev_str (ev_var rfl) sbo sn (by omega) (by decide) (by omega)) ev_bl o_notB)) (fun hb => ?_) fun _ => ?_
  · rw [T1, T2] at hb
    cases hb
  -- at three storeys
  refine q_when (b := decide ((dep : Int) = 3)) (et_test (ev_op2 (ev_var rfl) ev_int o_eqI)) (fun hb => ?_) fun _ => ?_
  · refine run_ret (d := .bl true) ?_ rfl
    have hfin : D.bl true = .bl (decide ((((if oneB al one [] 4 then "True" else "False" : String) : Str)) = (((if oneB al one [] 4 then "True" else "False" : String) : Str)))) := by rw [decide_eq_true rfl]
    rw [hfin]
    exact ev_op2 (ev_cb (ea_cons (at1 (s := 4) rfl (ev_var rfl) ev_str ev_int so sn (by omega) (by decide) (by omega)) ea_nil) c_reprB) (ev_cb (ea_cons (lw1 (s := 4) rfl (ev_var rfl) ev_str ev_int so sn (by omega) (by decide) (by omega)) ea_nil) c_reprB) o_eqS
  have T3 : oneB al (by1 ++ two) by1 dep = true := oneB_true (sby.app st) sby (by have := rt.left by1; rw [List.append_nil] at this; exact this)
  have T4 : oneB al (one ++ two) two dep = true := oneB_true (so.app st) st (by have := ro.right two; rw [List.nil_append] at this; exact this)
  refine q_when (b := (!decide (oneB al (by1 ++ two) by1 dep = true)) || (!decide (oneB al (one ++ two) two dep = true))) (et_or (et_test (ev_op2 (at1 rfl (ad (ev_var rfl) (ev_var rfl) (by omega) (by omega)) (ev_var rfl) (ev_var rfl) (sby.app st) sby (by rw [List.length_append]; omega) (by omega) (by omega)) ev_bl o_notB)) fun _ => et_test (ev_op2 (at1 rfl (ad (ev_var rfl) (ev_var rfl) (by omega) (by omega)) (ev_var rfl) (ev_var rfl) (so.app st) st (by rw [List.length_append]; omega) (by omega) (by omega)) ev_bl o_notB)) (fun hb => ?_) fun _ => ?_
  · rw [T3, T4] at hb
    cases hb
  refine q_when (b := !decide ((((if oneB al one [] (dep + 1) then "True" else "False" : String) : Str)) = (((if oneB al one [] (dep + 1) then "True" else "False" : String) : Str)))) (et_test (ev_op2 (ev_cb (ea_cons (at1 rfl (ev_var rfl) ev_str (up1' rfl) so sn (by omega) (by decide) (by omega)) ea_nil) c_reprB) (ev_cb (ea_cons (lw1 rfl (ev_var rfl) ev_str (up1' rfl) so sn (by omega) (by decide) (by omega)) ea_nil) c_reprB) o_neS)) (fun hb => ?_) fun _ => ?_
  · rw [decide_eq_true rfl] at hb
    cases hb
  have T5 : oneB al (one ++ two) (two ++ one) (dep + 1) = true := oneB_true (so.app st) (st.app so) (ro.swap rt)
  refine q_when (b := !decide (oneB al (one ++ two) (two ++ one) (dep + 1) = true)) (et_test (ev_op2 (at1 rfl (ad (ev_var rfl) (ev_var rfl) (by omega) (by omega)) (ad (ev_var rfl) (ev_var rfl) (by omega) (by omega)) (up1' rfl) (so.app st) (st.app so) (by rw [List.length_append]; omega) (by rw [List.length_append]; omega) (by omega)) ev_bl o_notB)) (fun hb => ?_) fun _ => ?_
  · rw [T5] at hb
    cases hb
  refine q_asg (d := dT (by1 ++ one ++ ub ++ two)) (ad (ad (ad (ev_var rfl) (ev_var rfl) (by omega) (by omega)) (un rfl) (by simp only [List.length_append]; omega) (by omega)) (ev_var rfl) (by omega) (by omega)) ?_
  refine q_asg (d := dT (two ++ by1 ++ one ++ ub)) (ad (ad (ad (ev_var rfl) (ev_var rfl) (by omega) (by omega)) (ev_var rfl) (by simp only [List.length_append]; omega) (by omega)) (un rfl) (by simp only [List.length_append]; omega) (by omega)) ?_
  have s6 : Sgn al (two ++ by1 ++ one ++ ub) := ((st.app sby).app so).app sub
  have T6 : oneB al (by1 ++ one ++ ub ++ two) (two ++ by1 ++ one ++ ub) (dep + 1) = true := oneB_true (sbo.app st) s6 (by
    have := rbo.swap rt
    have e : two ++ (by1 ++ one ++ ub) = two ++ by1 ++ one ++ ub := by simp only [List.append_assoc]
    rw [e] at this
    exact this)
  have T7 : oneB al (one ++ by1) (by1 ++ one) dep = true := oneB_true (so.app sby) (sby.app so) (by
    have k1 := ro.right by1
    rw [List.nil_append] at k1
    have k2 := ro.left by1
    rw [List.append_nil] at k2
    exact k1.trans k2.symm)
  refine run_ret (d := .bl true) ?_ rfl
  have hfin : D.bl true = .bl (decide (oneB al (by1 ++ one ++ ub ++ two) (two ++ by1 ++ one ++ ub) (dep + 1) = true) && decide (oneB al (one ++ by1) (by1 ++ one) dep = true)) := by rw [T6, T7] <;> rfl
  rw [hfin]
  exact ev_andV (ev_op2 (at1 rfl (ev_var rfl) (ev_var rfl) (up1' rfl) (sbo.app st) s6 (by rw [List.length_append]; omega) (by simp only [List.length_append]; omega) (by omega)) ev_bl o_isB) fun _ => ev_op2 (at1 rfl (ad (ev_var rfl) (ev_var rfl) (by omega) (by omega)) (ad (ev_var rfl) (ev_var rfl) (by omega) (by omega)) (ev_var rfl) (so.app sby) (sby.app so) (by rw [List.length_append]; omega) (by rw [List.length_append]; omega) (by omega)) ev_bl o_isB
end
end Tw


namespace K57
open PySem PySem.Spec PyProof.Rows L2 Sym
open Tw
def topS (i : Nat) : Stmt := PySem.Challenge.pw_twostoreys_k57_deep_detours_whole.main.body.getD i (.Pass ⟨0, 0, 0, 0⟩)
abbrev s__law_alphabet : Stmt := topS 33
theorem sc__law_alphabet : FnScope N__law_alphabet ["row"] (defScope s__law_alphabet) := ⟨rfl, rfl, rfl, by decide +kernel, rfl, by decide +kernel, by decide +kernel⟩
abbrev s__law_digits : Stmt := topS 32
theorem sc__law_digits : FnScope N__law_digits ["cell", "bases"] (defScope s__law_digits) := ⟨rfl, rfl, rfl, by decide +kernel, rfl, by decide +kernel, by decide +kernel⟩
abbrev s__law_word : Stmt := topS 34
theorem sc__law_word : FnScope N__law_word ["alphabet", "row", "many"] (defScope s__law_word) := ⟨rfl, rfl, rfl, by decide +kernel, rfl, by decide +kernel, by decide +kernel⟩
abbrev s__law_cell : Stmt := topS 31
theorem sc__law_cell : FnScope N__law_cell ["script", "k"] (defScope s__law_cell) := ⟨rfl, rfl, rfl, by decide +kernel, rfl, by decide +kernel, by decide +kernel⟩
abbrev s__law_eight : Stmt := topS 41
theorem sc__law_eight : FnScope N__law_eight ["script", "at", "alphabet", "depth"] (defScope s__law_eight) := ⟨rfl, rfl, rfl, by decide +kernel, rfl, by decide +kernel, by decide +kernel⟩
abbrev s_swapped : Stmt := topS 24
theorem sc_swapped : FnScope N__law_swapped ["sign"] (defScope s_swapped) := ⟨rfl, rfl, rfl, by decide +kernel, rfl, by decide +kernel, by decide +kernel⟩
abbrev s_struck : Stmt := topS 26
theorem sc_struck : FnScope N_struck ["word"] (defScope s_struck) := ⟨rfl, rfl, rfl, by decide +kernel, rfl, by decide +kernel, by decide +kernel⟩
abbrev s_undone : Stmt := topS 25
theorem sc_undone : FnScope N_undone ["word"] (defScope s_undone) := ⟨rfl, rfl, rfl, by decide +kernel, rfl, by decide +kernel, by decide +kernel⟩
abbrev s_detour : Stmt := topS 28
theorem sc_detour : FnScope N_detour ["one", "two"] (defScope s_detour) := ⟨rfl, rfl, rfl, by decide +kernel, rfl, by decide +kernel, by decide +kernel⟩
abbrev s_deep_detour : Stmt := topS 29
theorem sc_deep_detour : FnScope N_deep_detour ["words"] (defScope s_deep_detour) := ⟨rfl, rfl, rfl, by decide +kernel, rfl, by decide +kernel, by decide +kernel⟩
abbrev s_is_alphabet : Stmt := topS 8
theorem sc_is_alphabet : FnScope N_is_alphabet ["value"] (defScope s_is_alphabet) := ⟨rfl, rfl, rfl, by decide +kernel, rfl, by decide +kernel, by decide +kernel⟩
abbrev s_check_alphabet : Stmt := topS 10
theorem sc_check_alphabet : FnScope N_check_alphabet ["alphabet"] (defScope s_check_alphabet) := ⟨rfl, rfl, rfl, by decide +kernel, rfl, by decide +kernel, by decide +kernel⟩
abbrev s_is_word : Stmt := topS 9
theorem sc_is_word : FnScope N_is_word ["alphabet", "value"] (defScope s_is_word) := ⟨rfl, rfl, rfl, by decide +kernel, rfl, by decide +kernel, by decide +kernel⟩
abbrev s_check_word : Stmt := topS 11
theorem sc_check_word : FnScope N_check_word ["alphabet", "word"] (defScope s_check_word) := ⟨rfl, rfl, rfl, by decide +kernel, rfl, by decide +kernel, by decide +kernel⟩
abbrev s_check_words : Stmt := topS 12
theorem sc_check_words : FnScope N_check_words ["alphabet", "words"] (defScope s_check_words) := ⟨rfl, rfl, rfl, by decide +kernel, rfl, by decide +kernel, by decide +kernel⟩
abbrev s_numbered : Stmt := topS 16
theorem sc_numbered : FnScope N_numbered ["values"] (defScope s_numbered) := ⟨rfl, rfl, rfl, by decide +kernel, rfl, by decide +kernel, by decide +kernel⟩
abbrev s_sign_index : Stmt := topS 13
theorem sc_sign_index : FnScope N_sign_index ["alphabet", "sign"] (defScope s_sign_index) := ⟨rfl, rfl, rfl, by decide +kernel, rfl, by decide +kernel, by decide +kernel⟩
abbrev s_sign_direction : Stmt := topS 14
theorem sc_sign_direction : FnScope N_sign_direction ["sign"] (defScope s_sign_direction) := ⟨rfl, rfl, rfl, by decide +kernel, rfl, by decide +kernel, by decide +kernel⟩
abbrev s_road_of : Stmt := topS 17
theorem sc_road_of : FnScope N_road_of ["alphabet", "word", "row", "place"] (defScope s_road_of) := ⟨rfl, rfl, rfl, by decide +kernel, rfl, by decide +kernel, by decide +kernel⟩
abbrev s_counts_along : Stmt := topS 18
theorem sc_counts_along : FnScope N_counts_along ["alphabet", "word", "row"] (defScope s_counts_along) := ⟨rfl, rfl, rfl, by decide +kernel, rfl, by decide +kernel, by decide +kernel⟩
abbrev s_next_classes : Stmt := topS 19
theorem sc_next_classes : FnScope N_next_classes ["alphabet", "words", "rows"] (defScope s_next_classes) := ⟨rfl, rfl, rfl, by decide +kernel, rfl, by decide +kernel, by decide +kernel⟩
abbrev s_raw_classes : Stmt := topS 20
theorem sc_raw_classes : FnScope N_raw_classes ["alphabet", "words", "storeys"] (defScope s_raw_classes) := ⟨rfl, rfl, rfl, by decide +kernel, rfl, by decide +kernel, by decide +kernel⟩
abbrev s_are_one : Stmt := topS 21
theorem sc_are_one : FnScope N_are_one ["alphabet", "one", "two", "storeys"] (defScope s_are_one) := ⟨rfl, rfl, rfl, by decide +kernel, rfl, by decide +kernel, by decide +kernel⟩
abbrev s_one_at : Stmt := topS 22
theorem sc_one_at : FnScope N_one_at ["alphabet", "one", "two", "storeys"] (defScope s_one_at) := ⟨rfl, rfl, rfl, by decide +kernel, rfl, by decide +kernel, by decide +kernel⟩
abbrev s__law_swapped : Stmt := topS 35
theorem sc__law_swapped : FnScope N__law_swapped ["sign"] (defScope s__law_swapped) := ⟨rfl, rfl, rfl, by decide +kernel, rfl, by decide +kernel, by decide +kernel⟩
abbrev s__law_undone : Stmt := topS 36
theorem sc__law_undone : FnScope N__law_undone ["word"] (defScope s__law_undone) := ⟨rfl, rfl, rfl, by decide +kernel, rfl, by decide +kernel, by decide +kernel⟩
abbrev s__law_class_rows : Stmt := topS 37
theorem sc__law_class_rows : FnScope N__law_class_rows ["alphabet", "words", "storeys"] (defScope s__law_class_rows) := ⟨rfl, rfl, rfl, by decide +kernel, rfl, by decide +kernel, by decide +kernel⟩
abbrev s__law_one : Stmt := topS 38
theorem sc__law_one : FnScope N__law_one ["alphabet", "one", "two", "storeys"] (defScope s__law_one) := ⟨rfl, rfl, rfl, by decide +kernel, rfl, by decide +kernel, by decide +kernel⟩
abbrev s__law_struck : Stmt := topS 39
theorem sc__law_struck : FnScope N__law_struck ["word"] (defScope s__law_struck) := ⟨rfl, rfl, rfl, by decide +kernel, rfl, by decide +kernel, by decide +kernel⟩
abbrev s__law_deep : Stmt := topS 40
theorem sc__law_deep : FnScope N__law_deep ["words"] (defScope s__law_deep) := ⟨rfl, rfl, rfl, by decide +kernel, rfl, by decide +kernel, by decide +kernel⟩
abbrev s_law : Stmt := topS 42
theorem sc_law : FnScope N_law_K57 ["script"] (defScope s_law) := ⟨rfl, rfl, rfl, by decide +kernel, rfl, by decide +kernel, by decide +kernel⟩
theorem d__law_alphabet {P : Program} {w : World} {K : PySem.W.Frag} {mg : Str → Option Value} {base : Heap}  (f : Addr) (cdv : Value) (A : Around) (outer : List Env) (s : Shared) (H : Hp) (E : XK) (hG : NoRep A) (hr : Room 0 (A.deeper (PyProof.Rows.envOfC "_law_alphabet" (defScope s__law_alphabet) s.heap.objs.size f cdv))) :
    PSs (cxOf CX0 P w K mg base N__law_alphabet "_law_alphabet" (defScope s__law_alphabet) f cdv A outer s H E).nox (defBody s__law_alphabet) (t__law_alphabet P w K E ) :=
  (pss_cons (ps_set (i := 1) sc__law_alphabet.nd rfl (.inl rfl) pe_str)
  (pss_cons (ps_set (i := 2) sc__law_alphabet.nd rfl (.inl rfl) (pe_gIx (hu64 hr) (pv 0) pe_int (fun _ _ => rfl) (fun _ _ => rfl)))
  (pss_cons (ps_set (i := 3) sc__law_alphabet.nd rfl (.inl rfl) (pe_op op_gAdd (pe_op op_gAdd (pv 2) pe_int) (pe_gIx (hu64 hr) (pv 0) pe_int (fun _ _ => rfl) (fun _ _ => rfl))))
  (pss_cons (ps_set (i := 4) sc__law_alphabet.nd rfl (.inl rfl) (pe_op op_gAdd (pe_op op_gAdd (pv 3) pe_int) (pe_gIx (hu64 hr) (pv 0) pe_int (fun _ _ => rfl) (fun _ _ => rfl))))
  (pss_cons (ps_if (pt_cmpR (op_gEq (hu64 hr)) (pe_gIx (hu64 hr) (pv 0) pe_int (fun _ _ => rfl) (fun _ _ => rfl)) pe_int (nomark _)) (pss_one (ps_ret (pe_gIx (hu64 hr) (pv 1) (pv 2) (fun _ _ => rfl) (fun _ _ => rfl)))) pss_nil)
  (pss_cons (ps_if (pt_cmpR (op_gEq (hu64 hr)) (pe_gIx (hu64 hr) (pv 0) pe_int (fun _ _ => rfl) (fun _ _ => rfl)) pe_int (nomark _)) (pss_one (ps_ret (pe_op op_gAdd (pe_op op_gAdd (pe_gIx (hu64 hr) (pv 1) (pv 2) (fun _ _ => rfl) (fun _ _ => rfl)) (pe_gIx (hu64 hr) (pv 1) (pv 3) (fun _ _ => rfl) (fun _ _ => rfl))) (pe_gIx (hu64 hr) (pv 1) (pv 4) (fun _ _ => rfl) (fun _ _ => rfl))))) pss_nil)
  (pss_one (ps_ret (pe_op op_gAdd (pe_gIx (hu64 hr) (pv 1) (pv 2) (fun _ _ => rfl) (fun _ _ => rfl)) (pe_gIx (hu64 hr) (pv 1) (pv 3) (fun _ _ => rfl) (fun _ _ => rfl)))))))))))
theorem d__law_digits {P : Program} {w : World} {K : PySem.W.Frag} {mg : Str → Option Value} {base : Heap} (m_range : mg "range" = none) (m_len : mg "len" = none) (m_int : mg "int" = none) (f : Addr) (cdv : Value) (A : Around) (outer : List Env) (s : Shared) (H : Hp) (E : XK) (hG : NoRep A) (hr : Room 0 (A.deeper (PyProof.Rows.envOfC "_law_digits" (defScope s__law_digits) s.heap.objs.size f cdv))) :
    PSs (cxOf CX0 P w K mg base N__law_digits "_law_digits" (defScope s__law_digits) f cdv A outer s H E).nox (defBody s__law_digits) (t__law_digits P w K E ) :=
  (pss_cons (ps_set (i := 2) sc__law_digits.nd rfl (.inl rfl) (pe_lst pa_nil))
  (pss_cons (ps_set (i := 3) sc__law_digits.nd rfl (.inl rfl) (pe_callTy call_gInt (by rfl) m_int bt_int (pa_cons (pv 0) pa_nil)))
  (pss_cons (ps_if (pt_cmpR op_gGe (pv 3) (pe_op op_gPow pe_int pe_int) (nomark _)) (pss_cons (ps_set (i := 3) sc__law_digits.nd rfl (.inl rfl) (pe_op op_gSub (pv 3) (pe_op op_gPow pe_int pe_int)))
  (pss_cons (ps_for PassesOwn.never rfl (pi_any (pv 1)) (pg_name (i := 4) sc__law_digits.nd rfl (.inl rfl)) (pss_cons (ps_expr (pe_bm PySem.F.plainAttrs_list PySem.F.slot_list_append PySem.F.type_list_append mt_append (pv 2) (pa_cons (pe_op op_gMod (pe_callTy call_gInt (by rfl) m_int bt_int (pa_cons (pv 3) pa_nil)) (pv 4)) pa_nil)))
  (pss_one (ps_set (i := 3) sc__law_digits.nd rfl (.inl rfl) (pe_op op_gFdiv (pe_callTy call_gInt (by rfl) m_int bt_int (pa_cons (pv 3) pa_nil)) (pv 4))))))
  (pss_one (ps_ret (pv 2))))) pss_nil)
  (pss_cons (ps_set (i := 5) sc__law_digits.nd rfl (.inl rfl) (pe_op op_gMod (pe_callTy call_gInt (by rfl) m_int bt_int (pa_cons (pv 3) pa_nil)) pe_int))
  (pss_cons (ps_for PassesOwn.never rfl (pi_range1 (by rfl) m_range (pa_cons (pe_callB call_gLen (by rfl) m_len bt_len (pa_cons (pv 1) pa_nil)) pa_nil)) (pg_name (i := 6) sc__law_digits.nd rfl (.inl rfl)) (pss_cons (ps_set (i := 5) sc__law_digits.nd rfl (.inl rfl) (pe_op op_gMod (pe_callTy call_gInt (by rfl) m_int bt_int (pa_cons (pe_op op_gAdd (pe_op op_gAdd (pe_op op_gMul (pv 5) pe_int) (pe_op op_gMul pe_int (pv 6))) pe_int) pa_nil)) pe_int))
  (pss_cons (ps_set (i := 7) sc__law_digits.nd rfl (.inl rfl) (pe_op op_gMod (pe_callTy call_gInt (by rfl) m_int bt_int (pa_cons (pe_op op_gMul (pv 5) (pe_op op_gAdd (pe_op op_gFdiv (pv 5) pe_int) pe_int)) pa_nil)) pe_int))
  (pss_one (ps_expr (pe_bm PySem.F.plainAttrs_list PySem.F.slot_list_append PySem.F.type_list_append mt_append (pv 2) (pa_cons (pe_op op_gMod (pe_op op_gFdiv (pv 7) pe_int) (pe_gIx (hu64 hr) (pv 1) (pv 6) (fun _ _ => rfl) (fun _ _ => rfl))) pa_nil)))))))
  (pss_one (ps_ret (pv 2))))))))
theorem d__law_word {P : Program} {w : World} {K : PySem.W.Frag} {mg : Str → Option Value} {base : Heap} (m_range : mg "range" = none) (m_int : mg "int" = none) (m_len : mg "len" = none) (f : Addr) (cdv : Value) (A : Around) (outer : List Env) (s : Shared) (H : Hp) (E : XK) (hG : NoRep A) (hr : Room 0 (A.deeper (PyProof.Rows.envOfC "_law_word" (defScope s__law_word) s.heap.objs.size f cdv))) :
    PSs (cxOf CX0 P w K mg base N__law_word "_law_word" (defScope s__law_word) f cdv A outer s H E).nox (defBody s__law_word) (t__law_word P w K E ) :=
  (pss_cons (ps_set (i := 3) sc__law_word.nd rfl (.inr rfl) (pe_op op_gAdd (pe_lc (own := [("letter", 4)]) rfl sc__law_word.nd (pi_any (pv 0)) (blkOk_by (by first | decide +kernel | rfl)) (fun _ _ _ _ _ => (pg_name (i := 4) sc__law_word.nd rfl (.inl rfl))) (fun _ _ _ _ _ => pts_nil) (fun _ _ _ _ _ => (pv 4))) (pe_lc (own := [("letter", 4)]) rfl sc__law_word.nd (pi_any (pv 0)) (blkOk_by (by first | decide +kernel | rfl)) (fun _ _ _ _ _ => (pg_name (i := 4) sc__law_word.nd rfl (.inl rfl))) (fun _ _ _ _ _ => pts_nil) (fun _ _ _ _ _ => (pe_upp (pv 4))))))
  (pss_one (ps_ret (pe_jn pe_str (pe_lc (own := [("k", 5)]) rfl sc__law_word.nd (pi_range1 (by rfl) m_range (pa_cons (pv 2) pa_nil)) (blkOk_by (by first | decide +kernel | rfl)) (fun _ _ _ _ _ => (pg_name (i := 5) sc__law_word.nd rfl (.inl rfl))) (fun _ _ _ _ _ => pts_nil) (fun _ _ _ _ _ => (pe_gIx (hu64 hr) (pv 3) (pe_op op_gMod (pe_callTy call_gInt (by rfl) m_int bt_int (pa_cons (pe_gIx (hu64 hr) (pv 1) (pv 5) (fun _ _ => rfl) (fun _ _ => rfl)) pa_nil)) (pe_callB call_gLen (by rfl) m_len bt_len (pa_cons (pv 3) pa_nil))) (fun _ _ => rfl) (fun _ _ => rfl))))))))
theorem d__law_cell {P : Program} {w : World} {K : PySem.W.Frag} {mg : Str → Option Value} {base : Heap} (m_int : mg "int" = none) (m_len : mg "len" = none) (f : Addr) (cdv : Value) (A : Around) (outer : List Env) (s : Shared) (H : Hp) (E : XK) (hG : NoRep A) (hr : Room 0 (A.deeper (PyProof.Rows.envOfC "_law_cell" (defScope s__law_cell) s.heap.objs.size f cdv))) :
    PSs (cxOf CX0 P w K mg base N__law_cell "_law_cell" (defScope s__law_cell) f cdv A outer s H E).nox (defBody s__law_cell) (t__law_cell P w K E ) :=
  (pss_cons (ps_if (pt_cmpR op_gLt (pv 1) (pe_callB call_gLen (by rfl) m_len bt_len (pa_cons (pv 0) pa_nil)) (nomark _)) (pss_one (ps_ret (pe_gIx (hu64 hr) (pv 0) (pv 1) (fun _ _ => rfl) (fun _ _ => rfl)))) pss_nil)
  (pss_cons (ps_set (i := 2) sc__law_cell.nd rfl (.inl rfl) pe_int)
  (pss_cons (ps_for PassesOwn.never rfl (pi_any (pv 0)) (pg_name (i := 3) sc__law_cell.nd rfl (.inl rfl)) (pss_one (ps_set (i := 2) sc__law_cell.nd rfl (.inl rfl) (pe_op op_gMod (pe_callTy call_gInt (by rfl) m_int bt_int (pa_cons (pe_op op_gAdd (pe_op op_gMul (pv 2) pe_int) (pe_op op_gMod (pe_callTy call_gInt (by rfl) m_int bt_int (pa_cons (pv 3) pa_nil)) pe_int)) pa_nil)) pe_int))))
  (pss_one (ps_ret (pe_op op_gMod (pe_callTy call_gInt (by rfl) m_int bt_int (pa_cons (pe_op op_gMul (pe_op op_gMul (pe_op op_gAdd (pv 2) pe_int) (pe_op op_gAdd (pv 1) pe_int)) pe_int) pa_nil)) pe_int))))))
theorem d__law_eight {P : Program} {w : World} {K : PySem.W.Frag} {mg : Str → Option Value} {base : Heap} {sp__law_word sp__law_digits sp__law_cell : Sp} (c__law_word : Cal P w K mg base CX0 1 "_law_word" ["alphabet", "row", "many"] [] sp__law_word) (c__law_digits : Cal P w K mg base CX0 1 "_law_digits" ["cell", "bases"] [] sp__law_digits) (c__law_cell : Cal P w K mg base CX0 1 "_law_cell" ["script", "k"] [] sp__law_cell) (m_range : mg "range" = none) (m_len : mg "len" = none) (m_int : mg "int" = none) (f : Addr) (cdv : Value) (A : Around) (outer : List Env) (s : Shared) (H : Hp) (E : XK) (hG : NoRep A) (hr : Room 1 (A.deeper (PyProof.Rows.envOfC "_law_eight" (defScope s__law_eight) s.heap.objs.size f cdv))) :
    PSs (cxOf CX0 P w K mg base N__law_eight "_law_eight" (defScope s__law_eight) f cdv A outer s H E).nox (defBody s__law_eight) (t__law_eight P w K E sp__law_word sp__law_digits sp__law_cell) :=
  (pss_cons (ps_set (i := 4) sc__law_eight.nd rfl (.inl rfl) (pe_lst pa_nil))
  (pss_cons (ps_for PassesOwn.never rfl (pi_range1 (by rfl) m_range (pa_cons pe_int pa_nil)) (pg_name (i := 5) sc__law_eight.nd rfl (.inl rfl)) (pss_cons (ps_set (i := 6) sc__law_eight.nd rfl (.inl rfl) (pe_cal c__law_digits hG hr (by decide) (by rfl) pass0 (pa_cons (pe_cal c__law_cell hG hr (by decide) (by rfl) pass0 (pa_cons (pv 0) (pa_cons (pe_op op_gAdd (pv 1) (pv 5)) pa_nil))) (pa_cons (pe_lst (pa_cons pe_int (pa_cons pe_int (pa_cons pe_int pa_nil)))) pa_nil))))
  (pss_cons (ps_set (i := 7) sc__law_eight.nd rfl (.inl rfl) (pe_cal c__law_word hG hr (by decide) (by rfl) pass0 (pa_cons (pv 2) (pa_cons (pe_slice sl_gSl (pv 6) (po_some pe_int) po_none) (pa_cons (pe_op op_gAdd pe_int (pe_op op_gMul (pe_gIx (hu64 hr) (pv 6) pe_int (fun _ _ => rfl) (fun _ _ => rfl)) (pe_callTy call_gInt (by rfl) m_int bt_int (pa_cons (pe_cmpR op_gLt (pv 3) pe_int (nomark _)) pa_nil)))) pa_nil)))))
  (pss_cons (ps_if (PW.pt (pw_and (pt_cmpR (op_gEq (hu64 hr)) (pe_callB call_gLen (by rfl) m_len bt_len (pa_cons (pv 7) pa_nil)) pe_int (nomark _)) (pw_and1 (pt_cmpR op_gGt (pe_callB call_gLen (by rfl) m_len bt_len (pa_cons (pv 2) pa_nil)) pe_int (nomark _))))) (pss_cons (ps_set (i := 8) sc__law_eight.nd rfl (.inl rfl) (pe_gIx (hu64 hr) (pe_lst (pa_cons (pe_slice sl_gSl (pv 2) po_none (po_some pe_int)) (pa_cons (pe_slice sl_gSl (pv 2) (po_some pe_int) po_none) pa_nil))) (pe_op op_gMod (pv 5) pe_int) (fun _ _ => rfl) (fun _ _ => rfl)))
  (pss_one (ps_set (i := 7) sc__law_eight.nd rfl (.inl rfl) (pe_cal c__law_word hG hr (by decide) (by rfl) pass0 (pa_cons (pv 8) (pa_cons (pe_slice sl_gSl (pv 6) (po_some pe_int) po_none) (pa_cons pe_int pa_nil))))))) pss_nil)
  (pss_one (ps_expr (pe_bm PySem.F.plainAttrs_list PySem.F.slot_list_append PySem.F.type_list_append mt_append (pv 4) (pa_cons (pv 7) pa_nil))))))))
  (pss_one (ps_ret (pv 4)))))
theorem d_swapped {P : Program} {w : World} {K : PySem.W.Frag} {mg : Str → Option Value} {base : Heap}  (f : Addr) (cdv : Value) (A : Around) (outer : List Env) (s : Shared) (H : Hp) (E : XK) (hG : NoRep A) (hr : Room 0 (A.deeper (PyProof.Rows.envOfC "swapped" (defScope s_swapped) s.heap.objs.size f cdv))) :
    PSs (cxOf CX0 P w K mg base N__law_swapped "swapped" (defScope s_swapped) f cdv A outer s H E).nox (defBody s_swapped) (t__law_swapped P w K E ) :=
  (pss_cons (ps_if (pt_cmpR (op_gEq (hu64 hr)) (pv 0) (pe_low (pv 0)) (nomark _)) (pss_one (ps_ret (pe_upp (pv 0)))) pss_nil)
  (pss_one (ps_ret (pe_low (pv 0)))))
theorem d_struck {P : Program} {w : World} {K : PySem.W.Frag} {mg : Str → Option Value} {base : Heap} {sp_swapped : Sp} (c_swapped : Cal P w K mg base CX0 1 "swapped" ["sign"] [] sp_swapped) (f : Addr) (cdv : Value) (A : Around) (outer : List Env) (s : Shared) (H : Hp) (E : XK) (hG : NoRep A) (hr : Room 1 (A.deeper (PyProof.Rows.envOfC "struck" (defScope s_struck) s.heap.objs.size f cdv))) :
    PSs (cxOf CX0 P w K mg base N_struck "struck" (defScope s_struck) f cdv A outer s H E).nox (defBody s_struck) (t_struck P w K E sp_swapped) :=
  (pss_cons (ps_set (i := 1) sc_struck.nd rfl (.inl rfl) (pe_lst pa_nil))
  (pss_cons (ps_for PassesOwn.never rfl (pi_any (pv 0)) (pg_name (i := 2) sc_struck.nd rfl (.inl rfl)) (pss_one (ps_if (PW.pt (pw_and (pt_tru (pv 1)) (pw_and1 (pt_cmpR (op_gEq (hu64 hr)) (pe_gIx (hu64 hr) (pv 1) (pe_un un_neg pe_int) (fun _ _ => rfl) (fun _ _ => rfl)) (pe_cal c_swapped hG hr (by decide) (by rfl) pass0 (pa_cons (pv 2) pa_nil)) (nomark _))))) (pss_one (ps_expr (pe_bm0 PySem.F.plainAttrs_list PySem.F.slot_list_pop PySem.F.type_list_pop mt_pop (pv 1)))) (pss_one (ps_expr (pe_bm PySem.F.plainAttrs_list PySem.F.slot_list_append PySem.F.type_list_append mt_append (pv 1) (pa_cons (pv 2) pa_nil)))))))
  (pss_one (ps_ret (pe_jn pe_str (pv 1))))))
theorem d_undone {P : Program} {w : World} {K : PySem.W.Frag} {mg : Str → Option Value} {base : Heap} {sp_swapped : Sp} (c_swapped : Cal P w K mg base CX0 1 "swapped" ["sign"] [] sp_swapped) (f : Addr) (cdv : Value) (A : Around) (outer : List Env) (s : Shared) (H : Hp) (E : XK) (hG : NoRep A) (hr : Room 1 (A.deeper (PyProof.Rows.envOfC "undone" (defScope s_undone) s.heap.objs.size f cdv))) :
    PSs (cxOf CX0 P w K mg base N_undone "undone" (defScope s_undone) f cdv A outer s H E).nox (defBody s_undone) (t_undone P w K E sp_swapped) :=
  (pss_one (ps_ret (pe_jn pe_str (pe_lc (own := [("sign", 1)]) rfl sc_undone.nd (pi_any (pe_revG (pv 0))) (blkOk_by (by first | decide +kernel | rfl)) (fun _ _ _ _ _ => (pg_name (i := 1) sc_undone.nd rfl (.inl rfl))) (fun _ _ _ _ _ => pts_nil) (fun _ _ _ _ _ => (pe_cal c_swapped hG hr (by decide) (by rfl) pass0 (pa_cons (pv 1) pa_nil)))))))
theorem d_detour {P : Program} {w : World} {K : PySem.W.Frag} {mg : Str → Option Value} {base : Heap} {sp_struck sp_undone : Sp} (c_struck : Cal P w K mg base CX0 2 "struck" ["word"] [] sp_struck) (c_undone : Cal P w K mg base CX0 2 "undone" ["word"] [] sp_undone) (f : Addr) (cdv : Value) (A : Around) (outer : List Env) (s : Shared) (H : Hp) (E : XK) (hG : NoRep A) (hr : Room 2 (A.deeper (PyProof.Rows.envOfC "detour" (defScope s_detour) s.heap.objs.size f cdv))) :
    PSs (cxOf CX0 P w K mg base N_detour "detour" (defScope s_detour) f cdv A outer s H E).nox (defBody s_detour) (t_detour P w K E sp_struck sp_undone) :=
  (pss_one (ps_ret (pe_cal c_struck hG hr (by decide) (by rfl) pass0 (pa_cons (pe_op op_gAdd (pe_op op_gAdd (pe_op op_gAdd (pv 0) (pv 1)) (pe_cal c_undone hG hr (by decide) (by rfl) pass0 (pa_cons (pv 0) pa_nil))) (pe_cal c_undone hG hr (by decide) (by rfl) pass0 (pa_cons (pv 1) pa_nil))) pa_nil))))
theorem d_deep_detour {P : Program} {w : World} {K : PySem.W.Frag} {mg : Str → Option Value} {base : Heap} {sp_detour sp_struck : Sp} {C_BadCount : Addr} (c_detour : Cal P w K mg base CX0 3 "detour" ["one", "two"] [] sp_detour) (c_struck : Cal P w K mg base CX0 2 "struck" ["word"] [] sp_struck) (x_BadCount : ExT P w K mg base "BadCount" "length" C_BadCount) (m_len : mg "len" = none) (m_range : mg "range" = none) (f : Addr) (cdv : Value) (A : Around) (outer : List Env) (s : Shared) (H : Hp) (E : XK) (hG : NoRep A) (hr : Room 3 (A.deeper (PyProof.Rows.envOfC "deep_detour" (defScope s_deep_detour) s.heap.objs.size f cdv))) :
    PSs (cxOf (L2.CX P w) P w K mg base N_deep_detour "deep_detour" (defScope s_deep_detour) f cdv A outer s H E) (defBody s_deep_detour) (t_deep_detour P w K E sp_detour sp_struck C_BadCount) :=
  (pss_cons (ps_if (pt_cmpR (op_gNotIn (hu65 hr)) (pe_callB call_gLen (by rfl) m_len bt_len (pa_cons (pv 0) pa_nil)) (pe_tup (pa_cons pe_int (pa_cons pe_int (pa_cons pe_int (pa_cons pe_int pa_nil))))) (by rfl)) (pss_one (ps_rai x_BadCount hr (by decide) (by rfl) (pa_cons (pe_callB call_gLen (by rfl) m_len bt_len (pa_cons (pv 0) pa_nil)) pa_nil))) pss_nil)
  (pss_cons (ps_set (i := 1) sc_deep_detour.nd rfl (.inr rfl) (pe_lc (own := [("word", 2)]) rfl sc_deep_detour.nd (pi_any (pv 0)) (blkOk_by (by first | decide +kernel | rfl)) (fun _ _ _ _ _ => (pg_name (i := 2) sc_deep_detour.nd rfl (.inl rfl))) (fun _ _ _ _ _ => pts_nil) (fun _ _ _ _ _ => (pe_cal c_struck hG hr (by decide) (by rfl) pass0 (pa_cons (pv 2) pa_nil)))))
  (pss_cons (ps_while (passes_of rfl) (pt_cmpR op_gGt (pe_callB call_gLen (by rfl) m_len bt_len (pa_cons (pv 1) pa_nil)) pe_int (nomark _)) (pss_one (ps_set (i := 1) sc_deep_detour.nd rfl (.inr rfl) (pe_lc (own := [("index", 3)]) rfl sc_deep_detour.nd (pi_range3 (by rfl) m_range (pa_cons pe_int (pa_cons (pe_callB call_gLen (by rfl) m_len bt_len (pa_cons (pv 1) pa_nil)) (pa_cons pe_int pa_nil)))) (blkOk_by (by first | decide +kernel | rfl)) (fun _ _ _ _ _ => (pg_name (i := 3) sc_deep_detour.nd rfl (.inl rfl))) (fun _ _ _ _ _ => pts_nil) (fun _ _ _ _ _ => (pe_cal c_detour hG hr (by decide) (by rfl) pass0 (pa_cons (pe_gIx (hu64 hr) (pv 1) (pv 3) (fun _ _ => rfl) (fun _ _ => rfl)) (pa_cons (pe_gIx (hu64 hr) (pv 1) (pe_op op_gAdd (pv 3) pe_int) (fun _ _ => rfl) (fun _ _ => rfl)) pa_nil))))))))
  (pss_one (ps_ret (pe_gIx (hu64 hr) (pv 1) pe_int (fun _ _ => rfl) (fun _ _ => rfl)))))))
theorem d_is_alphabet {P : Program} {w : World} {K : PySem.W.Frag} {mg : Str → Option Value} {base : Heap} (m_range : mg "range" = none) (m_len : mg "len" = none) (g_LETTERS : ∃ u, mg "LETTERS" = some u ∧ RelV (V.str (S' [97, 98, 99, 100, 101, 102, 103, 104, 105, 106, 107, 108, 109, 110, 111, 112, 113, 114, 115, 116, 117, 118, 119, 120, 121, 122])) u) (f : Addr) (cdv : Value) (A : Around) (outer : List Env) (s : Shared) (H : Hp) (E : XK) (hG : NoRep A) (hr : Room 0 (A.deeper (PyProof.Rows.envOfC "is_alphabet" (defScope s_is_alphabet) s.heap.objs.size f cdv))) :
    PSs (cxOf CX0 P w K mg base N_is_alphabet "is_alphabet" (defScope s_is_alphabet) f cdv A outer s H E).nox (defBody s_is_alphabet) (t_is_alphabet P w K E ) :=
  (pss_cons (ps_if (pt_not (pt_chain op_gLe op_gLe pe_int (pe_callB call_gLen (by rfl) m_len bt_len (pa_cons (pv 0) pa_nil)) pe_int)) (pss_one (ps_ret pe_bl)) pss_nil)
  (pss_cons (ps_for PassesOwn.never rfl (pi_any (pv 0)) (pg_name (i := 1) sc_is_alphabet.nd rfl (.inl rfl)) (pss_one (ps_if (pt_cmpR (op_gNotIn (hu65 hr)) (pv 1) (pe_gcv (by rfl) g_LETTERS) (by rfl)) (pss_one (ps_ret pe_bl)) pss_nil)))
  (pss_cons (ps_for PassesOwn.never rfl (pi_range2 (by rfl) m_range (pa_cons pe_int (pa_cons (pe_callB call_gLen (by rfl) m_len bt_len (pa_cons (pv 0) pa_nil)) pa_nil))) (pg_name (i := 2) sc_is_alphabet.nd rfl (.inl rfl)) (pss_one (ps_if (pt_not (pt_cmpR op_gLt (pe_gIx (hu64 hr) (pv 0) (pe_op op_gSub (pv 2) pe_int) (fun _ _ => rfl) (fun _ _ => rfl)) (pe_gIx (hu64 hr) (pv 0) (pv 2) (fun _ _ => rfl) (fun _ _ => rfl)) (nomark _))) (pss_one (ps_ret pe_bl)) pss_nil)))
  (pss_one (ps_ret pe_bl)))))
theorem d_check_alphabet {P : Program} {w : World} {K : PySem.W.Frag} {mg : Str → Option Value} {base : Heap} {sp_is_alphabet : Sp} {C_BadAlphabet : Addr} (c_is_alphabet : Cal P w K mg base CX0 1 "is_alphabet" ["value"] [] sp_is_alphabet) (x_BadAlphabet : ExT P w K mg base "BadAlphabet" "alphabet" C_BadAlphabet) (f : Addr) (cdv : Value) (A : Around) (outer : List Env) (s : Shared) (H : Hp) (E : XK) (hG : NoRep A) (hr : Room 2 (A.deeper (PyProof.Rows.envOfC "check_alphabet" (defScope s_check_alphabet) s.heap.objs.size f cdv))) :
    PSs (cxOf (L2.CX P w) P w K mg base N_check_alphabet "check_alphabet" (defScope s_check_alphabet) f cdv A outer s H E) (defBody s_check_alphabet) (t_check_alphabet P w K E sp_is_alphabet C_BadAlphabet) :=
  (pss_one (ps_if (pt_not (pt_tru (pe_cal c_is_alphabet hG hr (by decide) (by rfl) pass0 (pa_cons (pv 0) pa_nil)))) (pss_one (ps_rai x_BadAlphabet hr (by decide) (by rfl) (pa_cons (pv 0) pa_nil))) pss_nil))
theorem d_is_word {P : Program} {w : World} {K : PySem.W.Frag} {mg : Str → Option Value} {base : Heap}  (f : Addr) (cdv : Value) (A : Around) (outer : List Env) (s : Shared) (H : Hp) (E : XK) (hG : NoRep A) (hr : Room 0 (A.deeper (PyProof.Rows.envOfC "is_word" (defScope s_is_word) s.heap.objs.size f cdv))) :
    PSs (cxOf CX0 P w K mg base N_is_word "is_word" (defScope s_is_word) f cdv A outer s H E).nox (defBody s_is_word) (t_is_word P w K E ) :=
  (pss_cons (ps_set (i := 2) sc_is_word.nd rfl (.inl rfl) (pe_op op_gAdd (pv 0) (pe_upp (pv 0))))
  (pss_cons (ps_for PassesOwn.never rfl (pi_any (pv 1)) (pg_name (i := 3) sc_is_word.nd rfl (.inl rfl)) (pss_one (ps_if (pt_cmpR (op_gNotIn (hu65 hr)) (pv 3) (pv 2) (by rfl)) (pss_one (ps_ret pe_bl)) pss_nil)))
  (pss_one (ps_ret pe_bl))))
theorem d_check_word {P : Program} {w : World} {K : PySem.W.Frag} {mg : Str → Option Value} {base : Heap} {sp_is_word : Sp} {C_BadWord : Addr} (c_is_word : Cal P w K mg base CX0 1 "is_word" ["alphabet", "value"] [] sp_is_word) (x_BadWord : ExT P w K mg base "BadWord" "word" C_BadWord) (f : Addr) (cdv : Value) (A : Around) (outer : List Env) (s : Shared) (H : Hp) (E : XK) (hG : NoRep A) (hr : Room 2 (A.deeper (PyProof.Rows.envOfC "check_word" (defScope s_check_word) s.heap.objs.size f cdv))) :
    PSs (cxOf (L2.CX P w) P w K mg base N_check_word "check_word" (defScope s_check_word) f cdv A outer s H E) (defBody s_check_word) (t_check_word P w K E sp_is_word C_BadWord) :=
  (pss_one (ps_if (pt_not (pt_tru (pe_cal c_is_word hG hr (by decide) (by rfl) pass0 (pa_cons (pv 0) (pa_cons (pv 1) pa_nil))))) (pss_one (ps_rai x_BadWord hr (by decide) (by rfl) (pa_cons (pv 1) pa_nil))) pss_nil))
theorem d_check_words {P : Program} {w : World} {K : PySem.W.Frag} {mg : Str → Option Value} {base : Heap} {sp_check_word sp_check_alphabet : Sp} (c_check_word : Cal P w K mg base (L2.CX P w) 3 "check_word" ["alphabet", "word"] [] sp_check_word) (c_check_alphabet : Cal P w K mg base (L2.CX P w) 3 "check_alphabet" ["alphabet"] [] sp_check_alphabet) (f : Addr) (cdv : Value) (A : Around) (outer : List Env) (s : Shared) (H : Hp) (E : XK) (hG : NoRep A) (hr : Room 3 (A.deeper (PyProof.Rows.envOfC "check_words" (defScope s_check_words) s.heap.objs.size f cdv))) :
    PSs (cxOf (L2.CX P w) P w K mg base N_check_words "check_words" (defScope s_check_words) f cdv A outer s H E) (defBody s_check_words) (t_check_words P w K E sp_check_word sp_check_alphabet) :=
  (pss_cons (ps_expr (pe_cal c_check_alphabet hG hr (by decide) (by rfl) (passes_call (takes_of rfl rfl rfl rfl) fun _ _ _ _ h => h) (pa_cons (pv 0) pa_nil)))
  (pss_one (ps_for (passes_of rfl) rfl (pi_any (pv 1)) (pg_name (i := 2) sc_check_words.nd rfl (.inl rfl)) (pss_one (ps_expr (pe_cal c_check_word hG hr (by decide) (by rfl) (passes_call (takes_of rfl rfl rfl rfl) fun _ _ _ _ h => h) (pa_cons (pv 0) (pa_cons (pv 2) pa_nil))))))))
theorem d_numbered {P : Program} {w : World} {K : PySem.W.Frag} {mg : Str → Option Value} {base : Heap} (m_tuple : mg "tuple" = none) (m_len : mg "len" = none) (f : Addr) (cdv : Value) (A : Around) (outer : List Env) (s : Shared) (H : Hp) (E : XK) (hG : NoRep A) (hr : Room 0 (A.deeper (PyProof.Rows.envOfC "numbered" (defScope s_numbered) s.heap.objs.size f cdv))) :
    PSs (cxOf CX0 P w K mg base N_numbered "numbered" (defScope s_numbered) f cdv A outer s H E).nox (defBody s_numbered) (t_numbered P w K E ) :=
  (pss_cons (ps_set (i := 1) sc_numbered.nd rfl (.inl rfl) pe_gDict)
  (pss_cons (ps_set (i := 2) sc_numbered.nd rfl (.inl rfl) (pe_lst pa_nil))
  (pss_cons (ps_for PassesOwn.never rfl (pi_any (pv 0)) (pg_name (i := 3) sc_numbered.nd rfl (.inl rfl)) (pss_cons (ps_set (i := 4) sc_numbered.nd rfl (.inl rfl) (pe_lst pa_nil))
  (pss_cons (ps_for PassesOwn.never rfl (pi_any (pv 3)) (pg_name (i := 5) sc_numbered.nd rfl (.inl rfl)) (pss_cons (ps_if (pt_cmpR (op_gNotIn (hu65 hr)) (pv 5) (pv 1) (by rfl)) (pss_one (ps_gPut (hu64 hr) (pv 1) (pv 5) (pe_callB call_gLen (by rfl) m_len bt_len (pa_cons (pv 1) pa_nil)) (by rfl) (ps_asg (pe_callB call_gLen (by rfl) m_len bt_len (pa_cons (pv 1) pa_nil)) (pg_sub (pv 1) (pv 5) set_list (fun _ => rfl))))) pss_nil)
  (pss_one (ps_expr (pe_bm PySem.F.plainAttrs_list PySem.F.slot_list_append PySem.F.type_list_append mt_append (pv 4) (pa_cons (pe_gIx (hu64 hr) (pv 1) (pv 5) (fun _ _ => rfl) (fun _ _ => rfl)) pa_nil))))))
  (pss_one (ps_expr (pe_bm PySem.F.plainAttrs_list PySem.F.slot_list_append PySem.F.type_list_append mt_append (pv 2) (pa_cons (pe_callTy call_gTuple (by rfl) m_tuple bt_tuple (pa_cons (pv 4) pa_nil)) pa_nil)))))))
  (pss_one (ps_ret (pe_callTy call_gTuple (by rfl) m_tuple bt_tuple (pa_cons (pv 2) pa_nil)))))))
theorem d_sign_index {P : Program} {w : World} {K : PySem.W.Frag} {mg : Str → Option Value} {base : Heap}  (f : Addr) (cdv : Value) (A : Around) (outer : List Env) (s : Shared) (H : Hp) (E : XK) (hG : NoRep A) (hr : Room 0 (A.deeper (PyProof.Rows.envOfC "sign_index" (defScope s_sign_index) s.heap.objs.size f cdv))) :
    PSs (cxOf CX0 P w K mg base N_sign_index "sign_index" (defScope s_sign_index) f cdv A outer s H E).nox (defBody s_sign_index) (t_sign_index P w K E ) :=
  (pss_one (ps_ret (pe_sidx (pv 0) (pe_low (pv 1)))))
theorem d_sign_direction {P : Program} {w : World} {K : PySem.W.Frag} {mg : Str → Option Value} {base : Heap}  (f : Addr) (cdv : Value) (A : Around) (outer : List Env) (s : Shared) (H : Hp) (E : XK) (hG : NoRep A) (hr : Room 0 (A.deeper (PyProof.Rows.envOfC "sign_direction" (defScope s_sign_direction) s.heap.objs.size f cdv))) :
    PSs (cxOf CX0 P w K mg base N_sign_direction "sign_direction" (defScope s_sign_direction) f cdv A outer s H E).nox (defBody s_sign_direction) (t_sign_direction P w K E ) :=
  (pss_cons (ps_if (pt_cmpR (op_gEq (hu64 hr)) (pv 0) (pe_low (pv 0)) (nomark _)) (pss_one (ps_ret pe_int)) pss_nil)
  (pss_one (ps_ret (pe_un un_neg pe_int))))
theorem d_road_of {P : Program} {w : World} {K : PySem.W.Frag} {mg : Str → Option Value} {base : Heap} {sp_sign_direction sp_sign_index : Sp} (c_sign_direction : Cal P w K mg base CX0 1 "sign_direction" ["sign"] [] sp_sign_direction) (c_sign_index : Cal P w K mg base CX0 1 "sign_index" ["alphabet", "sign"] [] sp_sign_index) (f : Addr) (cdv : Value) (A : Around) (outer : List Env) (s : Shared) (H : Hp) (E : XK) (hG : NoRep A) (hr : Room 1 (A.deeper (PyProof.Rows.envOfC "road_of" (defScope s_road_of) s.heap.objs.size f cdv))) :
    PSs (cxOf CX0 P w K mg base N_road_of "road_of" (defScope s_road_of) f cdv A outer s H E).nox (defBody s_road_of) (t_road_of P w K E sp_sign_direction sp_sign_index) :=
  (pss_cons (ps_set (i := 4) sc_road_of.nd rfl (.inl rfl) (pe_cal c_sign_index hG hr (by decide) (by rfl) pass0 (pa_cons (pv 0) (pa_cons (pe_gIx (hu64 hr) (pv 1) (pv 3) (fun _ _ => rfl) (fun _ _ => rfl)) pa_nil))))
  (pss_cons (ps_if (pt_cmpR (op_gEq (hu64 hr)) (pe_cal c_sign_direction hG hr (by decide) (by rfl) pass0 (pa_cons (pe_gIx (hu64 hr) (pv 1) (pv 3) (fun _ _ => rfl) (fun _ _ => rfl)) pa_nil)) pe_int (nomark _)) (pss_one (ps_ret (pe_tup (pa_cons (pe_gIx (hu64 hr) (pv 2) (pv 3) (fun _ _ => rfl) (fun _ _ => rfl)) (pa_cons (pv 4) pa_nil))))) pss_nil)
  (pss_one (ps_ret (pe_tup (pa_cons (pe_gIx (hu64 hr) (pv 2) (pe_op op_gAdd (pv 3) pe_int) (fun _ _ => rfl) (fun _ _ => rfl)) (pa_cons (pv 4) pa_nil)))))))
theorem d_counts_along {P : Program} {w : World} {K : PySem.W.Frag} {mg : Str → Option Value} {base : Heap} {sp_sign_direction sp_road_of : Sp} (c_sign_direction : Cal P w K mg base CX0 1 "sign_direction" ["sign"] [] sp_sign_direction) (c_road_of : Cal P w K mg base CX0 2 "road_of" ["alphabet", "word", "row", "place"] [] sp_road_of) (m_enumerate : mg "enumerate" = none) (m_tuple : mg "tuple" = none) (m_sorted : mg "sorted" = none) (f : Addr) (cdv : Value) (A : Around) (outer : List Env) (s : Shared) (H : Hp) (E : XK) (hG : NoRep A) (hr : Room 2 (A.deeper (PyProof.Rows.envOfC "counts_along" (defScope s_counts_along) s.heap.objs.size f cdv))) :
    PSs (cxOf CX0 P w K mg base N_counts_along "counts_along" (defScope s_counts_along) f cdv A outer s H E).nox (defBody s_counts_along) (t_counts_along P w K E sp_sign_direction sp_road_of) :=
  (pss_cons (ps_set (i := 3) sc_counts_along.nd rfl (.inr rfl) pe_gDict)
  (pss_cons (ps_set (i := 4) sc_counts_along.nd rfl (.inl rfl) (pe_lst (pa_cons (pe_tup pa_nil) pa_nil)))
  (pss_cons (ps_for PassesOwn.never rfl (pi_enumG (by rfl) m_enumerate (pa_cons (pv 1) pa_nil)) (pg_tup rfl (pgs_cons (pg_name (i := 5) sc_counts_along.nd rfl (.inl rfl)) (pgs_cons (pg_name (i := 6) sc_counts_along.nd rfl (.inl rfl)) pgs_nil))) (pss_cons (ps_set (i := 7) sc_counts_along.nd rfl (.inl rfl) (pe_cal c_road_of hG hr (by decide) (by rfl) pass0 (pa_cons (pv 0) (pa_cons (pv 1) (pa_cons (pv 2) (pa_cons (pv 5) pa_nil))))))
  (pss_cons (ps_gPut (hu64 hr) (pv 3) (pv 7) (pe_op op_gAdd (pe_gGet2 (hu64 hr) (pv 3) (pv 7) pe_int ⟨rfl, rfl, rfl, rfl⟩) (pe_cal c_sign_direction hG hr (by decide) (by rfl) pass0 (pa_cons (pv 6) pa_nil))) (by rfl) (ps_asg (pe_op op_gAdd (pe_gGet2 (hu64 hr) (pv 3) (pv 7) pe_int ⟨rfl, rfl, rfl, rfl⟩) (pe_cal c_sign_direction hG hr (by decide) (by rfl) pass0 (pa_cons (pv 6) pa_nil))) (pg_sub (pv 3) (pv 7) set_list (fun _ => rfl))))
  (pss_one (ps_expr (pe_bm PySem.F.plainAttrs_list PySem.F.slot_list_append PySem.F.type_list_append mt_append (pv 4) (pa_cons (pe_callTy call_gTuple (by rfl) m_tuple bt_tuple (pa_cons (pe_lc (own := [("one", 8)]) rfl sc_counts_along.nd (pi_any (pe_callB (call_gSorted rfl) (by rfl) m_sorted bt_sorted (pa_cons (pv 3) pa_nil))) (blkOk_by (by first | decide +kernel | rfl)) (fun _ _ _ _ _ => (pg_name (i := 8) sc_counts_along.nd rfl (.inl rfl))) (fun _ _ _ _ _ => (pts_one (pt_cmpR (op_gNe (hu64 hr)) (pe_gIx (hu64 hr) (pv 3) (pv 8) (fun _ _ => rfl) (fun _ _ => rfl)) pe_int (nomark _)))) (fun _ _ _ _ _ => (pe_tup (pa_cons (pe_gIx (hu64 hr) (pv 8) pe_int (fun _ _ => rfl) (fun _ _ => rfl)) (pa_cons (pe_gIx (hu64 hr) (pv 8) pe_int (fun _ _ => rfl) (fun _ _ => rfl)) (pa_cons (pe_gIx (hu64 hr) (pv 3) (pv 8) (fun _ _ => rfl) (fun _ _ => rfl)) pa_nil)))))) pa_nil)) pa_nil)))))))
  (pss_one (ps_ret (pv 4))))))
theorem d_next_classes {P : Program} {w : World} {K : PySem.W.Frag} {mg : Str → Option Value} {base : Heap} {sp_numbered sp_counts_along : Sp} (c_numbered : Cal P w K mg base CX0 1 "numbered" ["values"] [] sp_numbered) (c_counts_along : Cal P w K mg base CX0 3 "counts_along" ["alphabet", "word", "row"] [] sp_counts_along) (m_zip : mg "zip" = none) (f : Addr) (cdv : Value) (A : Around) (outer : List Env) (s : Shared) (H : Hp) (E : XK) (hG : NoRep A) (hr : Room 3 (A.deeper (PyProof.Rows.envOfC "next_classes" (defScope s_next_classes) s.heap.objs.size f cdv))) :
    PSs (cxOf CX0 P w K mg base N_next_classes "next_classes" (defScope s_next_classes) f cdv A outer s H E).nox (defBody s_next_classes) (t_next_classes P w K E sp_numbered sp_counts_along) :=
  (pss_one (ps_ret (pe_cal c_numbered hG hr (by decide) (by rfl) pass0 (pa_cons (pe_lc (own := [("word", 3), ("row", 4)]) rfl sc_next_classes.nd (pi_zipG (by rfl) m_zip (pa_cons (pv 1) (pa_cons (pv 2) pa_nil))) (blkOk_by (by first | decide +kernel | rfl)) (fun _ _ _ _ _ => (pg_tup rfl (pgs_cons (pg_name (i := 3) sc_next_classes.nd rfl (.inl rfl)) (pgs_cons (pg_name (i := 4) sc_next_classes.nd rfl (.inl rfl)) pgs_nil)))) (fun _ _ _ _ _ => pts_nil) (fun _ _ _ _ _ => (pe_cal c_counts_along hG hr (by decide) (by rfl) pass0 (pa_cons (pv 0) (pa_cons (pv 3) (pa_cons (pv 4) pa_nil)))))) pa_nil))))
theorem d_raw_classes {P : Program} {w : World} {K : PySem.W.Frag} {mg : Str → Option Value} {base : Heap} {sp_next_classes : Sp} (c_next_classes : Cal P w K mg base CX0 4 "next_classes" ["alphabet", "words", "rows"] [] sp_next_classes) (m_range : mg "range" = none) (m_tuple : mg "tuple" = none) (m_len : mg "len" = none) (f : Addr) (cdv : Value) (A : Around) (outer : List Env) (s : Shared) (H : Hp) (E : XK) (hG : NoRep A) (hr : Room 4 (A.deeper (PyProof.Rows.envOfC "raw_classes" (defScope s_raw_classes) s.heap.objs.size f cdv))) :
    PSs (cxOf CX0 P w K mg base N_raw_classes "raw_classes" (defScope s_raw_classes) f cdv A outer s H E).nox (defBody s_raw_classes) (t_raw_classes P w K E sp_next_classes) :=
  (pss_cons (ps_set (i := 3) sc_raw_classes.nd rfl (.inl rfl) (pe_callTy call_gTuple (by rfl) m_tuple bt_tuple (pa_cons (pe_lc (own := [("word", 5)]) rfl sc_raw_classes.nd (pi_any (pv 1)) (blkOk_by (by first | decide +kernel | rfl)) (fun _ _ _ _ _ => (pg_name (i := 5) sc_raw_classes.nd rfl (.inl rfl))) (fun _ _ _ _ _ => pts_nil) (fun _ _ _ _ _ => (pe_callTy call_gTuple (by rfl) m_tuple bt_tuple (pa_cons (pe_lc (own := [("place", 6)]) rfl sc_raw_classes.nd (pi_range1 (by rfl) m_range (pa_cons (pe_op op_gAdd (pe_callB call_gLen (by rfl) m_len bt_len (pa_cons (pv 5) pa_nil)) pe_int) pa_nil)) (blkOk_by (by first | decide +kernel | rfl)) (fun _ _ _ _ _ => (pg_name (i := 6) sc_raw_classes.nd rfl (.inl rfl))) (fun _ _ _ _ _ => pts_nil) (fun _ _ _ _ _ => pe_int)) pa_nil)))) pa_nil)))
  (pss_cons (ps_for PassesOwn.never rfl (pi_range1 (by rfl) m_range (pa_cons (pv 2) pa_nil)) (pg_name (i := 4) sc_raw_classes.nd rfl (.inl rfl)) (pss_one (ps_set (i := 3) sc_raw_classes.nd rfl (.inl rfl) (pe_cal c_next_classes hG hr (by decide) (by rfl) pass0 (pa_cons (pv 0) (pa_cons (pv 1) (pa_cons (pv 3) pa_nil)))))))
  (pss_one (ps_ret (pv 3)))))
theorem d_are_one {P : Program} {w : World} {K : PySem.W.Frag} {mg : Str → Option Value} {base : Heap} {sp_raw_classes : Sp} (c_raw_classes : Cal P w K mg base CX0 5 "raw_classes" ["alphabet", "words", "storeys"] [] sp_raw_classes) (f : Addr) (cdv : Value) (A : Around) (outer : List Env) (s : Shared) (H : Hp) (E : XK) (hG : NoRep A) (hr : Room 5 (A.deeper (PyProof.Rows.envOfC "are_one" (defScope s_are_one) s.heap.objs.size f cdv))) :
    PSs (cxOf CX0 P w K mg base N_are_one "are_one" (defScope s_are_one) f cdv A outer s H E).nox (defBody s_are_one) (t_are_one P w K E sp_raw_classes) :=
  (pss_cons (ps_set (i := 4) sc_are_one.nd rfl (.inl rfl) (pe_cal c_raw_classes hG hr (by decide) (by rfl) pass0 (pa_cons (pv 0) (pa_cons (pe_tup (pa_cons (pv 1) (pa_cons (pv 2) pa_nil))) (pa_cons (pv 3) pa_nil)))))
  (pss_one (ps_ret (pe_cmpR (op_gEq (hu64 hr)) (pe_gIx (hu64 hr) (pe_gIx (hu64 hr) (pv 4) pe_int (fun _ _ => rfl) (fun _ _ => rfl)) (pe_un un_neg pe_int) (fun _ _ => rfl) (fun _ _ => rfl)) (pe_gIx (hu64 hr) (pe_gIx (hu64 hr) (pv 4) pe_int (fun _ _ => rfl) (fun _ _ => rfl)) (pe_un un_neg pe_int) (fun _ _ => rfl) (fun _ _ => rfl)) (nomark _)))))
theorem d_one_at {P : Program} {w : World} {K : PySem.W.Frag} {mg : Str → Option Value} {base : Heap} {sp_are_one sp_check_words : Sp} (c_are_one : Cal P w K mg base CX0 6 "are_one" ["alphabet", "one", "two", "storeys"] [] sp_are_one) (c_check_words : Cal P w K mg base (L2.CX P w) 4 "check_words" ["alphabet", "words"] [] sp_check_words) (f : Addr) (cdv : Value) (A : Around) (outer : List Env) (s : Shared) (H : Hp) (E : XK) (hG : NoRep A) (hr : Room 6 (A.deeper (PyProof.Rows.envOfC "one_at" (defScope s_one_at) s.heap.objs.size f cdv))) :
    PSs (cxOf (L2.CX P w) P w K mg base N_one_at "one_at" (defScope s_one_at) f cdv A outer s H E) (defBody s_one_at) (t_one_at P w K E sp_are_one sp_check_words) :=
  (pss_cons (ps_expr (pe_cal c_check_words hG hr (by decide) (by rfl) (passes_call (takes_of rfl rfl rfl rfl) fun _ _ _ _ h => h) (pa_cons (pv 0) (pa_cons (pe_tup (pa_cons (pv 1) (pa_cons (pv 2) pa_nil))) pa_nil))))
  (pss_one (ps_ret (pe_cal c_are_one hG hr (by decide) (by rfl) pass0 (pa_cons (pv 0) (pa_cons (pv 1) (pa_cons (pv 2) (pa_cons (pv 3) pa_nil))))))))
theorem d__law_swapped {P : Program} {w : World} {K : PySem.W.Frag} {mg : Str → Option Value} {base : Heap}  (f : Addr) (cdv : Value) (A : Around) (outer : List Env) (s : Shared) (H : Hp) (E : XK) (hG : NoRep A) (hr : Room 0 (A.deeper (PyProof.Rows.envOfC "_law_swapped" (defScope s__law_swapped) s.heap.objs.size f cdv))) :
    PSs (cxOf CX0 P w K mg base N__law_swapped "_law_swapped" (defScope s__law_swapped) f cdv A outer s H E).nox (defBody s__law_swapped) (t__law_swapped P w K E ) :=
  (pss_cons (ps_if (pt_cmpR (op_gEq (hu64 hr)) (pv 0) (pe_low (pv 0)) (nomark _)) (pss_one (ps_ret (pe_upp (pv 0)))) pss_nil)
  (pss_one (ps_ret (pe_low (pv 0)))))
theorem d__law_undone {P : Program} {w : World} {K : PySem.W.Frag} {mg : Str → Option Value} {base : Heap} {sp__law_swapped : Sp} (c__law_swapped : Cal P w K mg base CX0 1 "_law_swapped" ["sign"] [] sp__law_swapped) (m_range : mg "range" = none) (m_len : mg "len" = none) (f : Addr) (cdv : Value) (A : Around) (outer : List Env) (s : Shared) (H : Hp) (E : XK) (hG : NoRep A) (hr : Room 1 (A.deeper (PyProof.Rows.envOfC "_law_undone" (defScope s__law_undone) s.heap.objs.size f cdv))) :
    PSs (cxOf CX0 P w K mg base N__law_undone "_law_undone" (defScope s__law_undone) f cdv A outer s H E).nox (defBody s__law_undone) (t__law_undone P w K E sp__law_swapped) :=
  (pss_one (ps_ret (pe_jn pe_str (pe_lc (own := [("k", 1)]) rfl sc__law_undone.nd (pi_range1 (by rfl) m_range (pa_cons (pe_callB call_gLen (by rfl) m_len bt_len (pa_cons (pv 0) pa_nil)) pa_nil)) (blkOk_by (by first | decide +kernel | rfl)) (fun _ _ _ _ _ => (pg_name (i := 1) sc__law_undone.nd rfl (.inl rfl))) (fun _ _ _ _ _ => pts_nil) (fun _ _ _ _ _ => (pe_cal c__law_swapped hG hr (by decide) (by rfl) pass0 (pa_cons (pe_gIx (hu64 hr) (pv 0) (pe_op op_gSub (pe_op op_gSub (pe_callB call_gLen (by rfl) m_len bt_len (pa_cons (pv 0) pa_nil)) pe_int) (pv 1)) (fun _ _ => rfl) (fun _ _ => rfl)) pa_nil)))))))
theorem d__law_class_rows {P : Program} {w : World} {K : PySem.W.Frag} {mg : Str → Option Value} {base : Heap} (m_range : mg "range" = none) (m_list : mg "list" = none) (m_len : mg "len" = none) (m_repr : mg "repr" = none) (m_sorted : mg "sorted" = none) (m_int : mg "int" = none) (f : Addr) (cdv : Value) (A : Around) (outer : List Env) (s : Shared) (H : Hp) (E : XK) (hG : NoRep A) (hr : Room 0 (A.deeper (PyProof.Rows.envOfC "_law_class_rows" (defScope s__law_class_rows) s.heap.objs.size f cdv))) :
    PSs (cxOf CX0 P w K mg base N__law_class_rows "_law_class_rows" (defScope s__law_class_rows) f cdv A outer s H E).nox (defBody s__law_class_rows) (t__law_class_rows P w K E ) :=
  (pss_cons (ps_setLc (i := 4) (own := [("word", 14)]) rfl sc__law_class_rows.nd rfl rfl (sw_true rfl rfl rfl (by decide +kernel)) (pi_any (pv 1)) (blkOk_by (by first | decide +kernel | rfl)) (fun _ _ _ _ _ => (pg_name (i := 14) sc__law_class_rows.nd rfl (.inl rfl))) (fun _ _ _ _ _ => pts_nil) (fun _ _ _ _ _ => (pe_lc (own := [("k", 3)]) rfl sc__law_class_rows.nd (pi_range1 (by rfl) m_range (pa_cons (pe_op op_gAdd (pe_callB call_gLen (by rfl) m_len bt_len (pa_cons (pv 14) pa_nil)) pe_int) pa_nil)) (blkOk_by (by first | decide +kernel | rfl)) (fun _ _ _ _ _ => (pg_name (i := 3) sc__law_class_rows.nd rfl (.inl rfl))) (fun _ _ _ _ _ => pts_nil) (fun _ _ _ _ _ => pe_int))))
  (pss_cons (ps_for PassesOwn.never rfl (pi_range1 (by rfl) m_range (pa_cons (pv 2) pa_nil)) (pg_name (i := 5) sc__law_class_rows.nd rfl (.inl rfl)) (pss_cons (ps_set (i := 6) sc__law_class_rows.nd rfl (.inl rfl) pe_gDict)
  (pss_cons (ps_set (i := 7) sc__law_class_rows.nd rfl (.inl rfl) (pe_lst pa_nil))
  (pss_cons (ps_for PassesOwn.never rfl (pi_range1 (by rfl) m_range (pa_cons (pe_callB call_gLen (by rfl) m_len bt_len (pa_cons (pv 1) pa_nil)) pa_nil)) (pg_name (i := 8) sc__law_class_rows.nd rfl (.inl rfl)) (pss_cons (ps_set (i := 9) sc__law_class_rows.nd rfl (.inr rfl) pe_gDict)
  (pss_cons (ps_set (i := 10) sc__law_class_rows.nd rfl (.inl rfl) (pe_lst pa_nil))
  (pss_cons (ps_for PassesOwn.never rfl (pi_range1 (by rfl) m_range (pa_cons (pe_op op_gAdd (pe_callB call_gLen (by rfl) m_len bt_len (pa_cons (pe_gIx (hu64 hr) (pv 1) (pv 8) (fun _ _ => rfl) (fun _ _ => rfl)) pa_nil)) pe_int) pa_nil)) (pg_name (i := 3) sc__law_class_rows.nd rfl (.inl rfl)) (pss_cons (ps_if (pt_cmpR op_gGt (pv 3) pe_int (nomark _)) (pss_cons (ps_set (i := 11) sc__law_class_rows.nd rfl (.inl rfl) (pe_gIx (hu64 hr) (pe_gIx (hu64 hr) (pv 1) (pv 8) (fun _ _ => rfl) (fun _ _ => rfl)) (pe_op op_gSub (pv 3) pe_int) (fun _ _ => rfl) (fun _ _ => rfl)))
  (pss_cons (ps_set (i := 12) sc__law_class_rows.nd rfl (.inl rfl) (pe_tup (pa_cons (pe_gIx (hu64 hr) (pe_gIx (hu64 hr) (pv 4) (pv 8) (fun _ _ => rfl) (fun _ _ => rfl)) (pe_op op_gSub (pv 3) pe_int) (fun _ _ => rfl) (fun _ _ => rfl)) (pa_cons (pe_sidx (pv 0) (pe_low (pv 11))) pa_nil))))
  (pss_cons (ps_if (pt_cmpR (op_gNotIn (hu65 hr)) (pv 11) (pv 0) (by rfl)) (pss_one (ps_set (i := 12) sc__law_class_rows.nd rfl (.inl rfl) (pe_tup (pa_cons (pe_gIx (hu64 hr) (pe_gIx (hu64 hr) (pv 4) (pv 8) (fun _ _ => rfl) (fun _ _ => rfl)) (pv 3) (fun _ _ => rfl) (fun _ _ => rfl)) (pa_cons (pe_sidx (pv 0) (pe_low (pv 11))) pa_nil))))) pss_nil)
  (pss_one (ps_gPut (hu64 hr) (pv 9) (pv 12) (pe_op op_gSub (pe_op op_gAdd (pe_gGet2 (hu64 hr) (pv 9) (pv 12) pe_int ⟨rfl, rfl, rfl, rfl⟩) pe_int) (pe_op op_gMul pe_int (pe_callTy call_gInt (by rfl) m_int bt_int (pa_cons (pe_cmpR (op_gNotIn (hu65 hr)) (pv 11) (pv 0) (by rfl)) pa_nil)))) (by rfl) (ps_asg (pe_op op_gSub (pe_op op_gAdd (pe_gGet2 (hu64 hr) (pv 9) (pv 12) pe_int ⟨rfl, rfl, rfl, rfl⟩) pe_int) (pe_op op_gMul pe_int (pe_callTy call_gInt (by rfl) m_int bt_int (pa_cons (pe_cmpR (op_gNotIn (hu65 hr)) (pv 11) (pv 0) (by rfl)) pa_nil)))) (pg_sub (pv 9) (pv 12) set_list (fun _ => rfl)))))))) pss_nil)
  (pss_cons (ps_set (i := 13) sc__law_class_rows.nd rfl (.inl rfl) (pe_callB (call_gReprW hG (hu64 hr)) (by rfl) m_repr bt_repr (pa_cons (pe_lc (own := [("road", 12)]) rfl sc__law_class_rows.nd (pi_any (pe_callB (call_gSorted rfl) (by rfl) m_sorted bt_sorted (pa_cons (pv 9) pa_nil))) (blkOk_by (by first | decide +kernel | rfl)) (fun _ _ _ _ _ => (pg_name (i := 12) sc__law_class_rows.nd rfl (.inl rfl))) (fun _ _ _ _ _ => (pts_one (pt_cmpR (op_gNe (hu64 hr)) (pe_gIx (hu64 hr) (pv 9) (pv 12) (fun _ _ => rfl) (fun _ _ => rfl)) pe_int (nomark _)))) (fun _ _ _ _ _ => (pe_tup (pa_cons (pv 12) (pa_cons (pe_gIx (hu64 hr) (pv 9) (pv 12) (fun _ _ => rfl) (fun _ _ => rfl)) pa_nil))))) pa_nil)))
  (pss_cons (ps_if (pt_cmpR (op_gNotIn (hu65 hr)) (pv 13) (pv 6) (by rfl)) (pss_one (ps_gPut (hu64 hr) (pv 6) (pv 13) (pe_callB call_gLen (by rfl) m_len bt_len (pa_cons (pv 6) pa_nil)) (by rfl) (ps_asg (pe_callB call_gLen (by rfl) m_len bt_len (pa_cons (pv 6) pa_nil)) (pg_sub (pv 6) (pv 13) set_list (fun _ => rfl))))) pss_nil)
  (pss_one (ps_expr (pe_bm PySem.F.plainAttrs_list PySem.F.slot_list_append PySem.F.type_list_append mt_append (pv 10) (pa_cons (pe_gIx (hu64 hr) (pv 6) (pv 13) (fun _ _ => rfl) (fun _ _ => rfl)) pa_nil))))))))
  (pss_one (ps_expr (pe_bm PySem.F.plainAttrs_list PySem.F.slot_list_append PySem.F.type_list_append mt_append (pv 7) (pa_cons (pv 10) pa_nil))))))))
  (pss_one (ps_setLc (i := 4) (own := [("line", 10)]) rfl sc__law_class_rows.nd rfl rfl (sw_true rfl rfl rfl (by decide +kernel)) (pi_any (pv 7)) (blkOk_by (by first | decide +kernel | rfl)) (fun _ _ _ _ _ => (pg_name (i := 10) sc__law_class_rows.nd rfl (.inl rfl))) (fun _ _ _ _ _ => pts_nil) (fun _ _ _ _ _ => (pe_callTy call_gList (by rfl) m_list bt_list (pa_cons (pv 10) pa_nil)))))))))
  (pss_one (ps_ret (pv 4)))))
theorem d__law_one {P : Program} {w : World} {K : PySem.W.Frag} {mg : Str → Option Value} {base : Heap} {sp__law_class_rows : Sp} (c__law_class_rows : Cal P w K mg base CX0 1 "_law_class_rows" ["alphabet", "words", "storeys"] [] sp__law_class_rows) (m_len : mg "len" = none) (f : Addr) (cdv : Value) (A : Around) (outer : List Env) (s : Shared) (H : Hp) (E : XK) (hG : NoRep A) (hr : Room 1 (A.deeper (PyProof.Rows.envOfC "_law_one" (defScope s__law_one) s.heap.objs.size f cdv))) :
    PSs (cxOf CX0 P w K mg base N__law_one "_law_one" (defScope s__law_one) f cdv A outer s H E).nox (defBody s__law_one) (t__law_one P w K E sp__law_class_rows) :=
  (pss_cons (ps_set (i := 4) sc__law_one.nd rfl (.inl rfl) (pe_cal c__law_class_rows hG hr (by decide) (by rfl) pass0 (pa_cons (pv 0) (pa_cons (pe_lst (pa_cons (pv 1) (pa_cons (pv 2) pa_nil))) (pa_cons (pv 3) pa_nil)))))
  (pss_one (ps_ret (pe_cmpR (op_gEq (hu64 hr)) (pe_gIx (hu64 hr) (pe_gIx (hu64 hr) (pv 4) pe_int (fun _ _ => rfl) (fun _ _ => rfl)) (pe_callB call_gLen (by rfl) m_len bt_len (pa_cons (pv 1) pa_nil)) (fun _ _ => rfl) (fun _ _ => rfl)) (pe_gIx (hu64 hr) (pe_gIx (hu64 hr) (pv 4) pe_int (fun _ _ => rfl) (fun _ _ => rfl)) (pe_callB call_gLen (by rfl) m_len bt_len (pa_cons (pv 2) pa_nil)) (fun _ _ => rfl) (fun _ _ => rfl)) (nomark _)))))
theorem d__law_struck {P : Program} {w : World} {K : PySem.W.Frag} {mg : Str → Option Value} {base : Heap} {sp__law_swapped : Sp} (c__law_swapped : Cal P w K mg base CX0 1 "_law_swapped" ["sign"] [] sp__law_swapped) (m_len : mg "len" = none) (f : Addr) (cdv : Value) (A : Around) (outer : List Env) (s : Shared) (H : Hp) (E : XK) (hG : NoRep A) (hr : Room 1 (A.deeper (PyProof.Rows.envOfC "_law_struck" (defScope s__law_struck) s.heap.objs.size f cdv))) :
    PSs (cxOf CX0 P w K mg base N__law_struck "_law_struck" (defScope s__law_struck) f cdv A outer s H E).nox (defBody s__law_struck) (t__law_struck P w K E sp__law_swapped) :=
  (pss_cons (ps_set (i := 1) sc__law_struck.nd rfl (.inl rfl) (pe_lst pa_nil))
  (pss_cons (ps_for PassesOwn.never rfl (pi_any (pv 0)) (pg_name (i := 2) sc__law_struck.nd rfl (.inl rfl)) (pss_one (ps_if (PW.pt (pw_and (pt_cmpR op_gGt (pe_callB call_gLen (by rfl) m_len bt_len (pa_cons (pv 1) pa_nil)) pe_int (nomark _)) (pw_and1 (pt_cmpR (op_gEq (hu64 hr)) (pe_gIx (hu64 hr) (pv 1) (pe_un un_neg pe_int) (fun _ _ => rfl) (fun _ _ => rfl)) (pe_cal c__law_swapped hG hr (by decide) (by rfl) pass0 (pa_cons (pv 2) pa_nil)) (nomark _))))) (pss_one (ps_expr (pe_bm0 PySem.F.plainAttrs_list PySem.F.slot_list_pop PySem.F.type_list_pop mt_pop (pv 1)))) (pss_one (ps_expr (pe_bm PySem.F.plainAttrs_list PySem.F.slot_list_append PySem.F.type_list_append mt_append (pv 1) (pa_cons (pv 2) pa_nil)))))))
  (pss_one (ps_ret (pe_jn pe_str (pv 1))))))
theorem d__law_deep {P : Program} {w : World} {K : PySem.W.Frag} {mg : Str → Option Value} {base : Heap} {sp__law_struck sp__law_undone : Sp} (c__law_struck : Cal P w K mg base CX0 2 "_law_struck" ["word"] [] sp__law_struck) (c__law_undone : Cal P w K mg base CX0 2 "_law_undone" ["word"] [] sp__law_undone) (m_range : mg "range" = none) (m_len : mg "len" = none) (f : Addr) (cdv : Value) (A : Around) (outer : List Env) (s : Shared) (H : Hp) (E : XK) (hG : NoRep A) (hr : Room 2 (A.deeper (PyProof.Rows.envOfC "_law_deep" (defScope s__law_deep) s.heap.objs.size f cdv))) :
    PSs (cxOf CX0 P w K mg base N__law_deep "_law_deep" (defScope s__law_deep) f cdv A outer s H E).nox (defBody s__law_deep) (t__law_deep P w K E sp__law_struck sp__law_undone) :=
  (pss_cons (ps_set (i := 1) sc__law_deep.nd rfl (.inr rfl) (pe_lc (own := [("word", 4)]) rfl sc__law_deep.nd (pi_any (pv 0)) (blkOk_by (by first | decide +kernel | rfl)) (fun _ _ _ _ _ => (pg_name (i := 4) sc__law_deep.nd rfl (.inl rfl))) (fun _ _ _ _ _ => pts_nil) (fun _ _ _ _ _ => (pe_cal c__law_struck hG hr (by decide) (by rfl) pass0 (pa_cons (pv 4) pa_nil)))))
  (pss_cons (ps_for PassesOwn.never rfl (pi_range1 (by rfl) m_range (pa_cons pe_int pa_nil)) (pg_name (i := 2) sc__law_deep.nd rfl (.inl rfl)) (pss_cons (ps_if (pt_cmpR (op_gEq (hu64 hr)) (pe_callB call_gLen (by rfl) m_len bt_len (pa_cons (pv 1) pa_nil)) pe_int (nomark _)) (pss_one ps_break) pss_nil)
  (pss_cons (ps_setLc (i := 3) (own := [("k", 5)]) rfl sc__law_deep.nd rfl rfl (sw_true rfl rfl rfl (by decide +kernel)) (pi_range1 (by rfl) m_range (pa_cons (pe_op op_gFdiv (pe_callB call_gLen (by rfl) m_len bt_len (pa_cons (pv 1) pa_nil)) pe_int) pa_nil)) (blkOk_by (by first | decide +kernel | rfl)) (fun _ _ _ _ _ => (pg_name (i := 5) sc__law_deep.nd rfl (.inl rfl))) (fun _ _ _ _ _ => pts_nil) (fun _ _ _ _ _ => (pe_tup (pa_cons (pe_gIx (hu64 hr) (pv 1) (pe_op op_gMul pe_int (pv 5)) (fun _ _ => rfl) (fun _ _ => rfl)) (pa_cons (pe_gIx (hu64 hr) (pv 1) (pe_op op_gAdd (pe_op op_gMul pe_int (pv 5)) pe_int) (fun _ _ => rfl) (fun _ _ => rfl)) pa_nil)))))
  (pss_one (ps_set (i := 1) sc__law_deep.nd rfl (.inr rfl) (pe_lc (own := [("pair", 6)]) rfl sc__law_deep.nd (pi_any (pv 3)) (blkOk_by (by first | decide +kernel | rfl)) (fun _ _ _ _ _ => (pg_name (i := 6) sc__law_deep.nd rfl (.inl rfl))) (fun _ _ _ _ _ => pts_nil) (fun _ _ _ _ _ => (pe_cal c__law_struck hG hr (by decide) (by rfl) pass0 (pa_cons (pe_op op_gAdd (pe_op op_gAdd (pe_op op_gAdd (pe_gIx (hu64 hr) (pv 6) pe_int (fun _ _ => rfl) (fun _ _ => rfl)) (pe_gIx (hu64 hr) (pv 6) pe_int (fun _ _ => rfl) (fun _ _ => rfl))) (pe_cal c__law_undone hG hr (by decide) (by rfl) pass0 (pa_cons (pe_gIx (hu64 hr) (pv 6) pe_int (fun _ _ => rfl) (fun _ _ => rfl)) pa_nil))) (pe_cal c__law_undone hG hr (by decide) (by rfl) pass0 (pa_cons (pe_gIx (hu64 hr) (pv 6) pe_int (fun _ _ => rfl) (fun _ _ => rfl)) pa_nil))) pa_nil)))))))))
  (pss_one (ps_ret (pe_gIx (hu64 hr) (pv 1) pe_int (fun _ _ => rfl) (fun _ _ => rfl))))))
theorem d_law {P : Program} {w : World} {K : PySem.W.Frag} {mg : Str → Option Value} {base : Heap} {sp_one_at sp__law_undone sp__law_one sp__law_word sp__law_digits sp__law_cell sp__law_deep sp_deep_detour sp__law_eight sp__law_alphabet : Sp} (c_one_at : Cal P w K mg base (L2.CX P w) 7 "one_at" ["alphabet", "one", "two", "storeys"] [] sp_one_at) (c__law_undone : Cal P w K mg base CX0 2 "_law_undone" ["word"] [] sp__law_undone) (c__law_one : Cal P w K mg base CX0 2 "_law_one" ["alphabet", "one", "two", "storeys"] [] sp__law_one) (c__law_word : Cal P w K mg base CX0 1 "_law_word" ["alphabet", "row", "many"] [] sp__law_word) (c__law_digits : Cal P w K mg base CX0 1 "_law_digits" ["cell", "bases"] [] sp__law_digits) (c__law_cell : Cal P w K mg base CX0 1 "_law_cell" ["script", "k"] [] sp__law_cell) (c__law_deep : Cal P w K mg base CX0 3 "_law_deep" ["words"] [] sp__law_deep) (c_deep_detour : Cal P w K mg base (L2.CX P w) 4 "deep_detour" ["words"] [] sp_deep_detour) (c__law_eight : Cal P w K mg base CX0 2 "_law_eight" ["script", "at", "alphabet", "depth"] [] sp__law_eight) (c__law_alphabet : Cal P w K mg base CX0 1 "_law_alphabet" ["row"] [] sp__law_alphabet) (m_repr : mg "repr" = none) (m_range : mg "range" = none) (m_int : mg "int" = none) (m_len : mg "len" = none) (f : Addr) (cdv : Value) (A : Around) (outer : List Env) (s : Shared) (H : Hp) (E : XK) (hG : NoRep A) (hr : Room 7 (A.deeper (PyProof.Rows.envOfC "law" (defScope s_law) s.heap.objs.size f cdv))) :
    PSs (cxOf CX0 P w K mg base N_law_K57 "law" (defScope s_law) f cdv A outer s H E).nox (defBody s_law) (t_law_K57 P w K E sp_one_at sp__law_undone sp__law_one sp__law_word sp__law_digits sp__law_cell sp__law_deep sp_deep_detour sp__law_eight sp__law_alphabet) :=
  (pss_cons (ps_set (i := 1) sc_law.nd rfl (.inl rfl) (pe_cal c__law_alphabet hG hr (by decide) (by rfl) pass0 (pa_cons (pe_cal c__law_digits hG hr (by decide) (by rfl) pass0 (pa_cons (pe_cal c__law_cell hG hr (by decide) (by rfl) pass0 (pa_cons (pv 0) (pa_cons pe_int pa_nil))) (pa_cons (pe_lst (pa_cons pe_int (pa_cons pe_int (pa_cons pe_int (pa_cons pe_int pa_nil))))) pa_nil))) pa_nil)))
  (pss_cons (ps_if (PW.pt (pw_and (pt_cmpR (op_gEq (hu64 hr)) (pe_callB call_gLen (by rfl) m_len bt_len (pa_cons (pv 1) pa_nil)) pe_int (nomark _)) (pw_and1 (pt_cmpR (op_gEq (hu64 hr)) (pe_op op_gMod (pe_callTy call_gInt (by rfl) m_int bt_int (pa_cons (pe_cal c__law_cell hG hr (by decide) (by rfl) pass0 (pa_cons (pv 0) (pa_cons pe_int pa_nil))) pa_nil)) pe_int) pe_int (nomark _))))) (pss_one (ps_set (i := 1) sc_law.nd rfl (.inl rfl) (pe_op op_gAdd (pv 1) pe_str))) pss_nil)
  (pss_cons (ps_set (i := 2) sc_law.nd rfl (.inl rfl) (pe_cal c__law_digits hG hr (by decide) (by rfl) pass0 (pa_cons (pe_cal c__law_cell hG hr (by decide) (by rfl) pass0 (pa_cons (pv 0) (pa_cons pe_int pa_nil))) (pa_cons (pe_lst (pa_cons pe_int (pa_cons pe_int (pa_cons pe_int pa_nil)))) pa_nil))))
  (pss_cons (ps_set (i := 3) sc_law.nd rfl (.inl rfl) (pe_gIx (hu64 hr) (pe_lst (pa_cons pe_int (pa_cons pe_int (pa_cons pe_int (pa_cons pe_int (pa_cons pe_int (pa_cons pe_int (pa_cons pe_int (pa_cons pe_int (pa_cons pe_int (pa_cons pe_int (pa_cons pe_int (pa_cons pe_int pa_nil))))))))))))) (pe_gIx (hu64 hr) (pv 2) pe_int (fun _ _ => rfl) (fun _ _ => rfl)) (fun _ _ => rfl) (fun _ _ => rfl)))
  (pss_cons (ps_set (i := 4) sc_law.nd rfl (.inl rfl) (pe_cal c__law_eight hG hr (by decide) (by rfl) pass0 (pa_cons (pv 0) (pa_cons pe_int (pa_cons (pv 1) (pa_cons (pv 3) pa_nil))))))
  (pss_cons (ps_set (i := 5) sc_law.nd rfl (.inl rfl) (pe_gIx (hu64 hr) (pe_lst (pa_cons pe_int (pa_cons pe_int (pa_cons pe_int pa_nil)))) (pe_op op_gSub (pv 3) pe_int) (fun _ _ => rfl) (fun _ _ => rfl)))
  (pss_cons (ps_set (i := 6) sc_law.nd rfl (.inl rfl) (pe_cal c_deep_detour hG hr (by decide) (by rfl) passL (pa_cons (pe_slice sl_gSl (pv 4) po_none (po_some (pv 5))) pa_nil)))
  (pss_cons (ps_set (i := 7) sc_law.nd rfl (.inl rfl) (pe_cal c_deep_detour hG hr (by decide) (by rfl) passL (pa_cons (pe_slice sl_gSl (pe_revG (pv 4)) po_none (po_some (pv 5))) pa_nil)))
  (pss_cons (ps_if (PW.pt (pw_or (pt_cmpR (op_gNe (hu64 hr)) (pe_callB (call_gReprW hG (hu64 hr)) (by rfl) m_repr bt_repr (pa_cons (pv 6) pa_nil)) (pe_callB (call_gReprW hG (hu64 hr)) (by rfl) m_repr bt_repr (pa_cons (pe_cal c__law_deep hG hr (by decide) (by rfl) pass0 (pa_cons (pe_slice sl_gSl (pv 4) po_none (po_some (pv 5))) pa_nil)) pa_nil)) (nomark _)) (pw_or1 (pt_cmpR (op_gNe (hu64 hr)) (pe_callB (call_gReprW hG (hu64 hr)) (by rfl) m_repr bt_repr (pa_cons (pv 7) pa_nil)) (pe_callB (call_gReprW hG (hu64 hr)) (by rfl) m_repr bt_repr (pa_cons (pe_cal c__law_deep hG hr (by decide) (by rfl) pass0 (pa_cons (pe_slice sl_gSl (pe_revG (pv 4)) po_none (po_some (pv 5))) pa_nil)) pa_nil)) (nomark _))))) (pss_one (ps_ret pe_bl)) pss_nil)
  (pss_cons (ps_set (i := 8) sc_law.nd rfl (.inl rfl) (pe_cal c__law_word hG hr (by decide) (by rfl) pass0 (pa_cons (pv 1) (pa_cons (pe_cal c__law_digits hG hr (by decide) (by rfl) pass0 (pa_cons (pe_cal c__law_cell hG hr (by decide) (by rfl) pass0 (pa_cons (pv 0) (pa_cons pe_int pa_nil))) (pa_cons (pe_lc (own := [("k", 11)]) rfl sc_law.nd (pi_range1 (by rfl) m_range (pa_cons pe_int pa_nil)) (blkOk_by (by first | decide +kernel | rfl)) (fun _ _ _ _ _ => (pg_name (i := 11) sc_law.nd rfl (.inl rfl))) (fun _ _ _ _ _ => pts_nil) (fun _ _ _ _ _ => pe_int)) pa_nil))) (pa_cons (pe_gIx (hu64 hr) (pv 2) pe_int (fun _ _ => rfl) (fun _ _ => rfl)) pa_nil)))))
  (pss_cons (ps_if (PW.pt (pw_or (pt_cmpR op_gIsNotW (pe_cal c_one_at hG hr (by decide) (by rfl) passL (pa_cons (pv 1) (pa_cons (pv 6) (pa_cons pe_str (pa_cons (pv 3) pa_nil))))) pe_bl (nomark _)) (pw_or1 (pt_cmpR op_gIsNotW (pe_cal c_one_at hG hr (by decide) (by rfl) passL (pa_cons (pv 1) (pa_cons (pe_op op_gAdd (pe_op op_gAdd (pv 8) (pv 6)) (pe_cal c__law_undone hG hr (by decide) (by rfl) pass0 (pa_cons (pv 8) pa_nil))) (pa_cons pe_str (pa_cons (pv 3) pa_nil))))) pe_bl (nomark _))))) (pss_one (ps_ret pe_bl)) pss_nil)
  (pss_cons (ps_if (pt_cmpR (op_gEq (hu64 hr)) (pv 3) pe_int (nomark _)) (pss_one (ps_ret (pe_cmpR (op_gEq (hu64 hr)) (pe_callB (call_gReprW hG (hu64 hr)) (by rfl) m_repr bt_repr (pa_cons (pe_cal c_one_at hG hr (by decide) (by rfl) passL (pa_cons (pv 1) (pa_cons (pv 6) (pa_cons pe_str (pa_cons pe_int pa_nil))))) pa_nil)) (pe_callB (call_gReprW hG (hu64 hr)) (by rfl) m_repr bt_repr (pa_cons (pe_cal c__law_one hG hr (by decide) (by rfl) pass0 (pa_cons (pv 1) (pa_cons (pv 6) (pa_cons pe_str (pa_cons pe_int pa_nil))))) pa_nil)) (nomark _)))) pss_nil)
  (pss_cons (ps_if (PW.pt (pw_or (pt_cmpR op_gIsNotW (pe_cal c_one_at hG hr (by decide) (by rfl) passL (pa_cons (pv 1) (pa_cons (pe_op op_gAdd (pv 8) (pv 7)) (pa_cons (pv 8) (pa_cons (pv 3) pa_nil))))) pe_bl (nomark _)) (pw_or1 (pt_cmpR op_gIsNotW (pe_cal c_one_at hG hr (by decide) (by rfl) passL (pa_cons (pv 1) (pa_cons (pe_op op_gAdd (pv 6) (pv 7)) (pa_cons (pv 7) (pa_cons (pv 3) pa_nil))))) pe_bl (nomark _))))) (pss_one (ps_ret pe_bl)) pss_nil)
  (pss_cons (ps_if (pt_cmpR (op_gNe (hu64 hr)) (pe_callB (call_gReprW hG (hu64 hr)) (by rfl) m_repr bt_repr (pa_cons (pe_cal c_one_at hG hr (by decide) (by rfl) passL (pa_cons (pv 1) (pa_cons (pv 6) (pa_cons pe_str (pa_cons (pe_op op_gAdd (pv 3) pe_int) pa_nil))))) pa_nil)) (pe_callB (call_gReprW hG (hu64 hr)) (by rfl) m_repr bt_repr (pa_cons (pe_cal c__law_one hG hr (by decide) (by rfl) pass0 (pa_cons (pv 1) (pa_cons (pv 6) (pa_cons pe_str (pa_cons (pe_op op_gAdd (pv 3) pe_int) pa_nil))))) pa_nil)) (nomark _)) (pss_one (ps_ret pe_bl)) pss_nil)
  (pss_cons (ps_if (pt_cmpR op_gIsNotW (pe_cal c_one_at hG hr (by decide) (by rfl) passL (pa_cons (pv 1) (pa_cons (pe_op op_gAdd (pv 6) (pv 7)) (pa_cons (pe_op op_gAdd (pv 7) (pv 6)) (pa_cons (pe_op op_gAdd (pv 3) pe_int) pa_nil))))) pe_bl (nomark _)) (pss_one (ps_ret pe_bl)) pss_nil)
  (pss_cons (ps_set (i := 9) sc_law.nd rfl (.inl rfl) (pe_op op_gAdd (pe_op op_gAdd (pe_op op_gAdd (pv 8) (pv 6)) (pe_cal c__law_undone hG hr (by decide) (by rfl) pass0 (pa_cons (pv 8) pa_nil))) (pv 7)))
  (pss_cons (ps_set (i := 10) sc_law.nd rfl (.inl rfl) (pe_op op_gAdd (pe_op op_gAdd (pe_op op_gAdd (pv 7) (pv 8)) (pv 6)) (pe_cal c__law_undone hG hr (by decide) (by rfl) pass0 (pa_cons (pv 8) pa_nil))))
  (pss_one (ps_ret (pe_and (pe_cmpR op_gIsW (pe_cal c_one_at hG hr (by decide) (by rfl) passL (pa_cons (pv 1) (pa_cons (pv 9) (pa_cons (pv 10) (pa_cons (pe_op op_gAdd (pv 3) pe_int) pa_nil))))) pe_bl (nomark _)) (pe_one (pe_cmpR op_gIsW (pe_cal c_one_at hG hr (by decide) (by rfl) passL (pa_cons (pv 1) (pa_cons (pe_op op_gAdd (pv 6) (pv 8)) (pa_cons (pe_op op_gAdd (pv 8) (pv 6)) (pa_cons (pv 3) pa_nil))))) pe_bl (nomark _)))))))))))))))))))))))
end K57

namespace K57
open PySem PySem.Spec PyProof.Rows L2 Sym
open Tw
abbrev sI_BadCount : Stmt := (C8.clsBody (topS 5)).getD 0 (.Pass ⟨0, 0, 0, 0⟩)
theorem scI_BadCount : FnScope ["self", "length"] ["self", "length"] (defScope sI_BadCount) := ⟨rfl, rfl, rfl, by decide +kernel, rfl, by decide +kernel, by decide +kernel⟩
theorem init_BadCount {P : Program} {w : World} {K : PySem.W.Frag} {mg : Str → Option Value} {base : Heap} {C f : Addr} {fd : FuncData} (F : Fun K "__init__" "BadCount.__init__" sI_BadCount f fd) (T : OexC K C) (no : PySem.W.findIn K (.ref C) "length" = some none) : FnOk P w K mg base CX0 1 f fd ["self", "length"] (spInit C "length") := by
  refine F.ok scI_BadCount (fun vs H Q E h => ?_) fun cdv A outer s H vs Q E room h => ⟨tOst K "length" (tVar 0) (tVar 1), pss_one (ps_ost (pv 0) (pv 1)), ?_⟩
  · obtain ⟨a, v, rfl, _⟩ := h
    rfl
  · obtain ⟨a, v, rfl, h1, h2⟩ := h
    exact ⟨v, rfl, .ref a, rfl, a, C, rfl, T, no, .inl ⟨h1, fun dx hd hne => h2 dx hd hne⟩⟩
abbrev sI_BadAlphabet : Stmt := (C8.clsBody (topS 3)).getD 0 (.Pass ⟨0, 0, 0, 0⟩)
theorem scI_BadAlphabet : FnScope ["self", "alphabet"] ["self", "alphabet"] (defScope sI_BadAlphabet) := ⟨rfl, rfl, rfl, by decide +kernel, rfl, by decide +kernel, by decide +kernel⟩
theorem init_BadAlphabet {P : Program} {w : World} {K : PySem.W.Frag} {mg : Str → Option Value} {base : Heap} {C f : Addr} {fd : FuncData} (F : Fun K "__init__" "BadAlphabet.__init__" sI_BadAlphabet f fd) (T : OexC K C) (no : PySem.W.findIn K (.ref C) "alphabet" = some none) : FnOk P w K mg base CX0 1 f fd ["self", "alphabet"] (spInit C "alphabet") := by
  refine F.ok scI_BadAlphabet (fun vs H Q E h => ?_) fun cdv A outer s H vs Q E room h => ⟨tOst K "alphabet" (tVar 0) (tVar 1), pss_one (ps_ost (pv 0) (pv 1)), ?_⟩
  · obtain ⟨a, v, rfl, _⟩ := h
    rfl
  · obtain ⟨a, v, rfl, h1, h2⟩ := h
    exact ⟨v, rfl, .ref a, rfl, a, C, rfl, T, no, .inl ⟨h1, fun dx hd hne => h2 dx hd hne⟩⟩
abbrev sI_BadWord : Stmt := (C8.clsBody (topS 4)).getD 0 (.Pass ⟨0, 0, 0, 0⟩)
theorem scI_BadWord : FnScope ["self", "word"] ["self", "word"] (defScope sI_BadWord) := ⟨rfl, rfl, rfl, by decide +kernel, rfl, by decide +kernel, by decide +kernel⟩
theorem init_BadWord {P : Program} {w : World} {K : PySem.W.Frag} {mg : Str → Option Value} {base : Heap} {C f : Addr} {fd : FuncData} (F : Fun K "__init__" "BadWord.__init__" sI_BadWord f fd) (T : OexC K C) (no : PySem.W.findIn K (.ref C) "word" = some none) : FnOk P w K mg base CX0 1 f fd ["self", "word"] (spInit C "word") := by
  refine F.ok scI_BadWord (fun vs H Q E h => ?_) fun cdv A outer s H vs Q E room h => ⟨tOst K "word" (tVar 0) (tVar 1), pss_one (ps_ost (pv 0) (pv 1)), ?_⟩
  · obtain ⟨a, v, rfl, _⟩ := h
    rfl
  · obtain ⟨a, v, rfl, h1, h2⟩ := h
    exact ⟨v, rfl, .ref a, rfl, a, C, rfl, T, no, .inl ⟨h1, fun dx hd hne => h2 dx hd hne⟩⟩
theorem all_mk {l : PySem.W.OpenLaw} {w : World} {K : PySem.W.Frag} {h : Heap} {mg : Str → Option Value} {fa : Addr} (KX : K.In h) (G : h.Ns mainGlobals mg) (hfa : mg "law" = some (.ref fa))
    {f__law_alphabet : Addr} {od__law_alphabet an__law_alphabet : Option Addr} {sl__law_alphabet : Array (Option Value)} {oc__law_alphabet kV__law_alphabet dc__law_alphabet pm__law_alphabet cd__law_alphabet ct__law_alphabet : Value}
    {f__law_digits : Addr} {od__law_digits an__law_digits : Option Addr} {sl__law_digits : Array (Option Value)} {oc__law_digits kV__law_digits dc__law_digits pm__law_digits cd__law_digits ct__law_digits : Value}
    {f__law_word : Addr} {od__law_word an__law_word : Option Addr} {sl__law_word : Array (Option Value)} {oc__law_word kV__law_word dc__law_word pm__law_word cd__law_word ct__law_word : Value}
    {f__law_cell : Addr} {od__law_cell an__law_cell : Option Addr} {sl__law_cell : Array (Option Value)} {oc__law_cell kV__law_cell dc__law_cell pm__law_cell cd__law_cell ct__law_cell : Value}
    {f__law_eight : Addr} {od__law_eight an__law_eight : Option Addr} {sl__law_eight : Array (Option Value)} {oc__law_eight kV__law_eight dc__law_eight pm__law_eight cd__law_eight ct__law_eight : Value}
    {f_swapped : Addr} {od_swapped an_swapped : Option Addr} {sl_swapped : Array (Option Value)} {oc_swapped kV_swapped dc_swapped pm_swapped cd_swapped ct_swapped : Value}
    {f_struck : Addr} {od_struck an_struck : Option Addr} {sl_struck : Array (Option Value)} {oc_struck kV_struck dc_struck pm_struck cd_struck ct_struck : Value}
    {f_undone : Addr} {od_undone an_undone : Option Addr} {sl_undone : Array (Option Value)} {oc_undone kV_undone dc_undone pm_undone cd_undone ct_undone : Value}
    {f_detour : Addr} {od_detour an_detour : Option Addr} {sl_detour : Array (Option Value)} {oc_detour kV_detour dc_detour pm_detour cd_detour ct_detour : Value}
    {f_deep_detour : Addr} {od_deep_detour an_deep_detour : Option Addr} {sl_deep_detour : Array (Option Value)} {oc_deep_detour kV_deep_detour dc_deep_detour pm_deep_detour cd_deep_detour ct_deep_detour : Value}
    {f_is_alphabet : Addr} {od_is_alphabet an_is_alphabet : Option Addr} {sl_is_alphabet : Array (Option Value)} {oc_is_alphabet kV_is_alphabet dc_is_alphabet pm_is_alphabet cd_is_alphabet ct_is_alphabet : Value}
    {f_check_alphabet : Addr} {od_check_alphabet an_check_alphabet : Option Addr} {sl_check_alphabet : Array (Option Value)} {oc_check_alphabet kV_check_alphabet dc_check_alphabet pm_check_alphabet cd_check_alphabet ct_check_alphabet : Value}
    {f_is_word : Addr} {od_is_word an_is_word : Option Addr} {sl_is_word : Array (Option Value)} {oc_is_word kV_is_word dc_is_word pm_is_word cd_is_word ct_is_word : Value}
    {f_check_word : Addr} {od_check_word an_check_word : Option Addr} {sl_check_word : Array (Option Value)} {oc_check_word kV_check_word dc_check_word pm_check_word cd_check_word ct_check_word : Value}
    {f_check_words : Addr} {od_check_words an_check_words : Option Addr} {sl_check_words : Array (Option Value)} {oc_check_words kV_check_words dc_check_words pm_check_words cd_check_words ct_check_words : Value}
    {f_numbered : Addr} {od_numbered an_numbered : Option Addr} {sl_numbered : Array (Option Value)} {oc_numbered kV_numbered dc_numbered pm_numbered cd_numbered ct_numbered : Value}
    {f_sign_index : Addr} {od_sign_index an_sign_index : Option Addr} {sl_sign_index : Array (Option Value)} {oc_sign_index kV_sign_index dc_sign_index pm_sign_index cd_sign_index ct_sign_index : Value}
    {f_sign_direction : Addr} {od_sign_direction an_sign_direction : Option Addr} {sl_sign_direction : Array (Option Value)} {oc_sign_direction kV_sign_direction dc_sign_direction pm_sign_direction cd_sign_direction ct_sign_direction : Value}
    {f_road_of : Addr} {od_road_of an_road_of : Option Addr} {sl_road_of : Array (Option Value)} {oc_road_of kV_road_of dc_road_of pm_road_of cd_road_of ct_road_of : Value}
    {f_counts_along : Addr} {od_counts_along an_counts_along : Option Addr} {sl_counts_along : Array (Option Value)} {oc_counts_along kV_counts_along dc_counts_along pm_counts_along cd_counts_along ct_counts_along : Value}
    {f_next_classes : Addr} {od_next_classes an_next_classes : Option Addr} {sl_next_classes : Array (Option Value)} {oc_next_classes kV_next_classes dc_next_classes pm_next_classes cd_next_classes ct_next_classes : Value}
    {f_raw_classes : Addr} {od_raw_classes an_raw_classes : Option Addr} {sl_raw_classes : Array (Option Value)} {oc_raw_classes kV_raw_classes dc_raw_classes pm_raw_classes cd_raw_classes ct_raw_classes : Value}
    {f_are_one : Addr} {od_are_one an_are_one : Option Addr} {sl_are_one : Array (Option Value)} {oc_are_one kV_are_one dc_are_one pm_are_one cd_are_one ct_are_one : Value}
    {f_one_at : Addr} {od_one_at an_one_at : Option Addr} {sl_one_at : Array (Option Value)} {oc_one_at kV_one_at dc_one_at pm_one_at cd_one_at ct_one_at : Value}
    {f__law_swapped : Addr} {od__law_swapped an__law_swapped : Option Addr} {sl__law_swapped : Array (Option Value)} {oc__law_swapped kV__law_swapped dc__law_swapped pm__law_swapped cd__law_swapped ct__law_swapped : Value}
    {f__law_undone : Addr} {od__law_undone an__law_undone : Option Addr} {sl__law_undone : Array (Option Value)} {oc__law_undone kV__law_undone dc__law_undone pm__law_undone cd__law_undone ct__law_undone : Value}
    {f__law_class_rows : Addr} {od__law_class_rows an__law_class_rows : Option Addr} {sl__law_class_rows : Array (Option Value)} {oc__law_class_rows kV__law_class_rows dc__law_class_rows pm__law_class_rows cd__law_class_rows ct__law_class_rows : Value}
    {f__law_one : Addr} {od__law_one an__law_one : Option Addr} {sl__law_one : Array (Option Value)} {oc__law_one kV__law_one dc__law_one pm__law_one cd__law_one ct__law_one : Value}
    {f__law_struck : Addr} {od__law_struck an__law_struck : Option Addr} {sl__law_struck : Array (Option Value)} {oc__law_struck kV__law_struck dc__law_struck pm__law_struck cd__law_struck ct__law_struck : Value}
    {f__law_deep : Addr} {od__law_deep an__law_deep : Option Addr} {sl__law_deep : Array (Option Value)} {oc__law_deep kV__law_deep dc__law_deep pm__law_deep cd__law_deep ct__law_deep : Value}
    {f_law : Addr} {od_law an_law : Option Addr} {sl_law : Array (Option Value)} {oc_law kV_law dc_law pm_law cd_law ct_law : Value}
    {tk_LETTERS : Tok}
    {C_BadCount : Addr}
    {C_BadAlphabet : Addr}
    {C_BadWord : Addr}
    {nm_BadCount q_BadCount : Str} {N_BadCount : Addr} {bs_BadCount bm_BadCount sub_BadCount : List Value} {sn_BadCount : List Str} {ab_BadCount : Bool} {col_BadCount : Option Bool} {dd_BadCount : Option Addr} {m0_BadCount m1_BadCount m2_BadCount m3_BadCount m5_BadCount : Option Value} {fI_BadCount : Addr} {odI_BadCount anI_BadCount : Option Addr} {slI_BadCount : Array (Option Value)} {ocI_BadCount kVI_BadCount dcI_BadCount pmI_BadCount cdI_BadCount ctI_BadCount : Value}
    {nm_BadAlphabet q_BadAlphabet : Str} {N_BadAlphabet : Addr} {bs_BadAlphabet bm_BadAlphabet sub_BadAlphabet : List Value} {sn_BadAlphabet : List Str} {ab_BadAlphabet : Bool} {col_BadAlphabet : Option Bool} {dd_BadAlphabet : Option Addr} {m0_BadAlphabet m1_BadAlphabet m2_BadAlphabet m3_BadAlphabet m5_BadAlphabet : Option Value} {fI_BadAlphabet : Addr} {odI_BadAlphabet anI_BadAlphabet : Option Addr} {slI_BadAlphabet : Array (Option Value)} {ocI_BadAlphabet kVI_BadAlphabet dcI_BadAlphabet pmI_BadAlphabet cdI_BadAlphabet ctI_BadAlphabet : Value}
    {nm_BadWord q_BadWord : Str} {N_BadWord : Addr} {bs_BadWord bm_BadWord sub_BadWord : List Value} {sn_BadWord : List Str} {ab_BadWord : Bool} {col_BadWord : Option Bool} {dd_BadWord : Option Addr} {m0_BadWord m1_BadWord m2_BadWord m3_BadWord m5_BadWord : Option Value} {fI_BadWord : Addr} {odI_BadWord anI_BadWord : Option Addr} {slI_BadWord : Array (Option Value)} {ocI_BadWord kVI_BadWord dcI_BadWord pmI_BadWord cdI_BadWord ctI_BadWord : Value}
    (a__law_alphabet : PySem.W.nsIn K mainGlobals "_law_alphabet" = some (some (.ref f__law_alphabet)))
    (l__law_alphabet : K.lookup f__law_alphabet = some ⟨oc__law_alphabet, od__law_alphabet, .func (PySem.W.fnOf "_law_alphabet" "_law_alphabet" (defArgs s__law_alphabet) (defBody s__law_alphabet) (defScope s__law_alphabet) .none kV__law_alphabet dc__law_alphabet pm__law_alphabet an__law_alphabet cd__law_alphabet ct__law_alphabet), sl__law_alphabet⟩)
    (c__law_alphabet : PySem.W.codeIn K cd__law_alphabet "_law_alphabet" = true)
    (k__law_alphabet : PySem.W.keepIn K (.ref f__law_alphabet) = true)
    (a__law_digits : PySem.W.nsIn K mainGlobals "_law_digits" = some (some (.ref f__law_digits)))
    (l__law_digits : K.lookup f__law_digits = some ⟨oc__law_digits, od__law_digits, .func (PySem.W.fnOf "_law_digits" "_law_digits" (defArgs s__law_digits) (defBody s__law_digits) (defScope s__law_digits) .none kV__law_digits dc__law_digits pm__law_digits an__law_digits cd__law_digits ct__law_digits), sl__law_digits⟩)
    (c__law_digits : PySem.W.codeIn K cd__law_digits "_law_digits" = true)
    (k__law_digits : PySem.W.keepIn K (.ref f__law_digits) = true)
    (a__law_word : PySem.W.nsIn K mainGlobals "_law_word" = some (some (.ref f__law_word)))
    (l__law_word : K.lookup f__law_word = some ⟨oc__law_word, od__law_word, .func (PySem.W.fnOf "_law_word" "_law_word" (defArgs s__law_word) (defBody s__law_word) (defScope s__law_word) .none kV__law_word dc__law_word pm__law_word an__law_word cd__law_word ct__law_word), sl__law_word⟩)
    (c__law_word : PySem.W.codeIn K cd__law_word "_law_word" = true)
    (k__law_word : PySem.W.keepIn K (.ref f__law_word) = true)
    (a__law_cell : PySem.W.nsIn K mainGlobals "_law_cell" = some (some (.ref f__law_cell)))
    (l__law_cell : K.lookup f__law_cell = some ⟨oc__law_cell, od__law_cell, .func (PySem.W.fnOf "_law_cell" "_law_cell" (defArgs s__law_cell) (defBody s__law_cell) (defScope s__law_cell) .none kV__law_cell dc__law_cell pm__law_cell an__law_cell cd__law_cell ct__law_cell), sl__law_cell⟩)
    (c__law_cell : PySem.W.codeIn K cd__law_cell "_law_cell" = true)
    (k__law_cell : PySem.W.keepIn K (.ref f__law_cell) = true)
    (a__law_eight : PySem.W.nsIn K mainGlobals "_law_eight" = some (some (.ref f__law_eight)))
    (l__law_eight : K.lookup f__law_eight = some ⟨oc__law_eight, od__law_eight, .func (PySem.W.fnOf "_law_eight" "_law_eight" (defArgs s__law_eight) (defBody s__law_eight) (defScope s__law_eight) .none kV__law_eight dc__law_eight pm__law_eight an__law_eight cd__law_eight ct__law_eight), sl__law_eight⟩)
    (c__law_eight : PySem.W.codeIn K cd__law_eight "_law_eight" = true)
    (k__law_eight : PySem.W.keepIn K (.ref f__law_eight) = true)
    (a_swapped : PySem.W.nsIn K mainGlobals "swapped" = some (some (.ref f_swapped)))
    (l_swapped : K.lookup f_swapped = some ⟨oc_swapped, od_swapped, .func (PySem.W.fnOf "swapped" "swapped" (defArgs s_swapped) (defBody s_swapped) (defScope s_swapped) .none kV_swapped dc_swapped pm_swapped an_swapped cd_swapped ct_swapped), sl_swapped⟩)
    (c_swapped : PySem.W.codeIn K cd_swapped "swapped" = true)
    (k_swapped : PySem.W.keepIn K (.ref f_swapped) = true)
    (a_struck : PySem.W.nsIn K mainGlobals "struck" = some (some (.ref f_struck)))
    (l_struck : K.lookup f_struck = some ⟨oc_struck, od_struck, .func (PySem.W.fnOf "struck" "struck" (defArgs s_struck) (defBody s_struck) (defScope s_struck) .none kV_struck dc_struck pm_struck an_struck cd_struck ct_struck), sl_struck⟩)
    (c_struck : PySem.W.codeIn K cd_struck "struck" = true)
    (k_struck : PySem.W.keepIn K (.ref f_struck) = true)
    (a_undone : PySem.W.nsIn K mainGlobals "undone" = some (some (.ref f_undone)))
    (l_undone : K.lookup f_undone = some ⟨oc_undone, od_undone, .func (PySem.W.fnOf "undone" "undone" (defArgs s_undone) (defBody s_undone) (defScope s_undone) .none kV_undone dc_undone pm_undone an_undone cd_undone ct_undone), sl_undone⟩)
    (c_undone : PySem.W.codeIn K cd_undone "undone" = true)
    (k_undone : PySem.W.keepIn K (.ref f_undone) = true)
    (a_detour : PySem.W.nsIn K mainGlobals "detour" = some (some (.ref f_detour)))
    (l_detour : K.lookup f_detour = some ⟨oc_detour, od_detour, .func (PySem.W.fnOf "detour" "detour" (defArgs s_detour) (defBody s_detour) (defScope s_detour) .none kV_detour dc_detour pm_detour an_detour cd_detour ct_detour), sl_detour⟩)
    (c_detour : PySem.W.codeIn K cd_detour "detour" = true)
    (k_detour : PySem.W.keepIn K (.ref f_detour) = true)
    (a_deep_detour : PySem.W.nsIn K mainGlobals "deep_detour" = some (some (.ref f_deep_detour)))
    (l_deep_detour : K.lookup f_deep_detour = some ⟨oc_deep_detour, od_deep_detour, .func (PySem.W.fnOf "deep_detour" "deep_detour" (defArgs s_deep_detour) (defBody s_deep_detour) (defScope s_deep_detour) .none kV_deep_detour dc_deep_detour pm_deep_detour an_deep_detour cd_deep_detour ct_deep_detour), sl_deep_detour⟩)
    (c_deep_detour : PySem.W.codeIn K cd_deep_detour "deep_detour" = true)
    (k_deep_detour : PySem.W.keepIn K (.ref f_deep_detour) = true)
    (a_is_alphabet : PySem.W.nsIn K mainGlobals "is_alphabet" = some (some (.ref f_is_alphabet)))
    (l_is_alphabet : K.lookup f_is_alphabet = some ⟨oc_is_alphabet, od_is_alphabet, .func (PySem.W.fnOf "is_alphabet" "is_alphabet" (defArgs s_is_alphabet) (defBody s_is_alphabet) (defScope s_is_alphabet) .none kV_is_alphabet dc_is_alphabet pm_is_alphabet an_is_alphabet cd_is_alphabet ct_is_alphabet), sl_is_alphabet⟩)
    (c_is_alphabet : PySem.W.codeIn K cd_is_alphabet "is_alphabet" = true)
    (k_is_alphabet : PySem.W.keepIn K (.ref f_is_alphabet) = true)
    (a_check_alphabet : PySem.W.nsIn K mainGlobals "check_alphabet" = some (some (.ref f_check_alphabet)))
    (l_check_alphabet : K.lookup f_check_alphabet = some ⟨oc_check_alphabet, od_check_alphabet, .func (PySem.W.fnOf "check_alphabet" "check_alphabet" (defArgs s_check_alphabet) (defBody s_check_alphabet) (defScope s_check_alphabet) .none kV_check_alphabet dc_check_alphabet pm_check_alphabet an_check_alphabet cd_check_alphabet ct_check_alphabet), sl_check_alphabet⟩)
    (c_check_alphabet : PySem.W.codeIn K cd_check_alphabet "check_alphabet" = true)
    (k_check_alphabet : PySem.W.keepIn K (.ref f_check_alphabet) = true)
    (a_is_word : PySem.W.nsIn K mainGlobals "is_word" = some (some (.ref f_is_word)))
    (l_is_word : K.lookup f_is_word = some ⟨oc_is_word, od_is_word, .func (PySem.W.fnOf "is_word" "is_word" (defArgs s_is_word) (defBody s_is_word) (defScope s_is_word) .none kV_is_word dc_is_word pm_is_word an_is_word cd_is_word ct_is_word), sl_is_word⟩)
    (c_is_word : PySem.W.codeIn K cd_is_word "is_word" = true)
    (k_is_word : PySem.W.keepIn K (.ref f_is_word) = true)
    (a_check_word : PySem.W.nsIn K mainGlobals "check_word" = some (some (.ref f_check_word)))
    (l_check_word : K.lookup f_check_word = some ⟨oc_check_word, od_check_word, .func (PySem.W.fnOf "check_word" "check_word" (defArgs s_check_word) (defBody s_check_word) (defScope s_check_word) .none kV_check_word dc_check_word pm_check_word an_check_word cd_check_word ct_check_word), sl_check_word⟩)
    (c_check_word : PySem.W.codeIn K cd_check_word "check_word" = true)
    (k_check_word : PySem.W.keepIn K (.ref f_check_word) = true)
    (a_check_words : PySem.W.nsIn K mainGlobals "check_words" = some (some (.ref f_check_words)))
    (l_check_words : K.lookup f_check_words = some ⟨oc_check_words, od_check_words, .func (PySem.W.fnOf "check_words" "check_words" (defArgs s_check_words) (defBody s_check_words) (defScope s_check_words) .none kV_check_words dc_check_words pm_check_words an_check_words cd_check_words ct_check_words), sl_check_words⟩)
    (c_check_words : PySem.W.codeIn K cd_check_words "check_words" = true)
    (k_check_words : PySem.W.keepIn K (.ref f_check_words) = true)
    (a_numbered : PySem.W.nsIn K mainGlobals "numbered" = some (some (.ref f_numbered)))
    (l_numbered : K.lookup f_numbered = some ⟨oc_numbered, od_numbered, .func (PySem.W.fnOf "numbered" "numbered" (defArgs s_numbered) (defBody s_numbered) (defScope s_numbered) .none kV_numbered dc_numbered pm_numbered an_numbered cd_numbered ct_numbered), sl_numbered⟩)
    (c_numbered : PySem.W.codeIn K cd_numbered "numbered" = true)
    (k_numbered : PySem.W.keepIn K (.ref f_numbered) = true)
    (a_sign_index : PySem.W.nsIn K mainGlobals "sign_index" = some (some (.ref f_sign_index)))
    (l_sign_index : K.lookup f_sign_index = some ⟨oc_sign_index, od_sign_index, .func (PySem.W.fnOf "sign_index" "sign_index" (defArgs s_sign_index) (defBody s_sign_index) (defScope s_sign_index) .none kV_sign_index dc_sign_index pm_sign_index an_sign_index cd_sign_index ct_sign_index), sl_sign_index⟩)
    (c_sign_index : PySem.W.codeIn K cd_sign_index "sign_index" = true)
    (k_sign_index : PySem.W.keepIn K (.ref f_sign_index) = true)
    (a_sign_direction : PySem.W.nsIn K mainGlobals "sign_direction" = some (some (.ref f_sign_direction)))
    (l_sign_direction : K.lookup f_sign_direction = some ⟨oc_sign_direction, od_sign_direction, .func (PySem.W.fnOf "sign_direction" "sign_direction" (defArgs s_sign_direction) (defBody s_sign_direction) (defScope s_sign_direction) .none kV_sign_direction dc_sign_direction pm_sign_direction an_sign_direction cd_sign_direction ct_sign_direction), sl_sign_direction⟩)
    (c_sign_direction : PySem.W.codeIn K cd_sign_direction "sign_direction" = true)
    (k_sign_direction : PySem.W.keepIn K (.ref f_sign_direction) = true)
    (a_road_of : PySem.W.nsIn K mainGlobals "road_of" = some (some (.ref f_road_of)))
    (l_road_of : K.lookup f_road_of = some ⟨oc_road_of, od_road_of, .func (PySem.W.fnOf "road_of" "road_of" (defArgs s_road_of) (defBody s_road_of) (defScope s_road_of) .none kV_road_of dc_road_of pm_road_of an_road_of cd_road_of ct_road_of), sl_road_of⟩)
    (c_road_of : PySem.W.codeIn K cd_road_of "road_of" = true)
    (k_road_of : PySem.W.keepIn K (.ref f_road_of) = true)
    (a_counts_along : PySem.W.nsIn K mainGlobals "counts_along" = some (some (.ref f_counts_along)))
    (l_counts_along : K.lookup f_counts_along = some ⟨oc_counts_along, od_counts_along, .func (PySem.W.fnOf "counts_along" "counts_along" (defArgs s_counts_along) (defBody s_counts_along) (defScope s_counts_along) .none kV_counts_along dc_counts_along pm_counts_along an_counts_along cd_counts_along ct_counts_along), sl_counts_along⟩)
    (c_counts_along : PySem.W.codeIn K cd_counts_along "counts_along" = true)
    (k_counts_along : PySem.W.keepIn K (.ref f_counts_along) = true)
    (a_next_classes : PySem.W.nsIn K mainGlobals "next_classes" = some (some (.ref f_next_classes)))
    (l_next_classes : K.lookup f_next_classes = some ⟨oc_next_classes, od_next_classes, .func (PySem.W.fnOf "next_classes" "next_classes" (defArgs s_next_classes) (defBody s_next_classes) (defScope s_next_classes) .none kV_next_classes dc_next_classes pm_next_classes an_next_classes cd_next_classes ct_next_classes), sl_next_classes⟩)
    (c_next_classes : PySem.W.codeIn K cd_next_classes "next_classes" = true)
    (k_next_classes : PySem.W.keepIn K (.ref f_next_classes) = true)
    (a_raw_classes : PySem.W.nsIn K mainGlobals "raw_classes" = some (some (.ref f_raw_classes)))
    (l_raw_classes : K.lookup f_raw_classes = some ⟨oc_raw_classes, od_raw_classes, .func (PySem.W.fnOf "raw_classes" "raw_classes" (defArgs s_raw_classes) (defBody s_raw_classes) (defScope s_raw_classes) .none kV_raw_classes dc_raw_classes pm_raw_classes an_raw_classes cd_raw_classes ct_raw_classes), sl_raw_classes⟩)
    (c_raw_classes : PySem.W.codeIn K cd_raw_classes "raw_classes" = true)
    (k_raw_classes : PySem.W.keepIn K (.ref f_raw_classes) = true)
    (a_are_one : PySem.W.nsIn K mainGlobals "are_one" = some (some (.ref f_are_one)))
    (l_are_one : K.lookup f_are_one = some ⟨oc_are_one, od_are_one, .func (PySem.W.fnOf "are_one" "are_one" (defArgs s_are_one) (defBody s_are_one) (defScope s_are_one) .none kV_are_one dc_are_one pm_are_one an_are_one cd_are_one ct_are_one), sl_are_one⟩)
    (c_are_one : PySem.W.codeIn K cd_are_one "are_one" = true)
    (k_are_one : PySem.W.keepIn K (.ref f_are_one) = true)
    (a_one_at : PySem.W.nsIn K mainGlobals "one_at" = some (some (.ref f_one_at)))
    (l_one_at : K.lookup f_one_at = some ⟨oc_one_at, od_one_at, .func (PySem.W.fnOf "one_at" "one_at" (defArgs s_one_at) (defBody s_one_at) (defScope s_one_at) .none kV_one_at dc_one_at pm_one_at an_one_at cd_one_at ct_one_at), sl_one_at⟩)
    (c_one_at : PySem.W.codeIn K cd_one_at "one_at" = true)
    (k_one_at : PySem.W.keepIn K (.ref f_one_at) = true)
    (a__law_swapped : PySem.W.nsIn K mainGlobals "_law_swapped" = some (some (.ref f__law_swapped)))
    (l__law_swapped : K.lookup f__law_swapped = some ⟨oc__law_swapped, od__law_swapped, .func (PySem.W.fnOf "_law_swapped" "_law_swapped" (defArgs s__law_swapped) (defBody s__law_swapped) (defScope s__law_swapped) .none kV__law_swapped dc__law_swapped pm__law_swapped an__law_swapped cd__law_swapped ct__law_swapped), sl__law_swapped⟩)
    (c__law_swapped : PySem.W.codeIn K cd__law_swapped "_law_swapped" = true)
    (k__law_swapped : PySem.W.keepIn K (.ref f__law_swapped) = true)
    (a__law_undone : PySem.W.nsIn K mainGlobals "_law_undone" = some (some (.ref f__law_undone)))
    (l__law_undone : K.lookup f__law_undone = some ⟨oc__law_undone, od__law_undone, .func (PySem.W.fnOf "_law_undone" "_law_undone" (defArgs s__law_undone) (defBody s__law_undone) (defScope s__law_undone) .none kV__law_undone dc__law_undone pm__law_undone an__law_undone cd__law_undone ct__law_undone), sl__law_undone⟩)
    (c__law_undone : PySem.W.codeIn K cd__law_undone "_law_undone" = true)
    (k__law_undone : PySem.W.keepIn K (.ref f__law_undone) = true)
    (a__law_class_rows : PySem.W.nsIn K mainGlobals "_law_class_rows" = some (some (.ref f__law_class_rows)))
    (l__law_class_rows : K.lookup f__law_class_rows = some ⟨oc__law_class_rows, od__law_class_rows, .func (PySem.W.fnOf "_law_class_rows" "_law_class_rows" (defArgs s__law_class_rows) (defBody s__law_class_rows) (defScope s__law_class_rows) .none kV__law_class_rows dc__law_class_rows pm__law_class_rows an__law_class_rows cd__law_class_rows ct__law_class_rows), sl__law_class_rows⟩)
    (c__law_class_rows : PySem.W.codeIn K cd__law_class_rows "_law_class_rows" = true)
    (k__law_class_rows : PySem.W.keepIn K (.ref f__law_class_rows) = true)
    (a__law_one : PySem.W.nsIn K mainGlobals "_law_one" = some (some (.ref f__law_one)))
    (l__law_one : K.lookup f__law_one = some ⟨oc__law_one, od__law_one, .func (PySem.W.fnOf "_law_one" "_law_one" (defArgs s__law_one) (defBody s__law_one) (defScope s__law_one) .none kV__law_one dc__law_one pm__law_one an__law_one cd__law_one ct__law_one), sl__law_one⟩)
    (c__law_one : PySem.W.codeIn K cd__law_one "_law_one" = true)
    (k__law_one : PySem.W.keepIn K (.ref f__law_one) = true)
    (a__law_struck : PySem.W.nsIn K mainGlobals "_law_struck" = some (some (.ref f__law_struck)))
    (l__law_struck : K.lookup f__law_struck = some ⟨oc__law_struck, od__law_struck, .func (PySem.W.fnOf "_law_struck" "_law_struck" (defArgs s__law_struck) (defBody s__law_struck) (defScope s__law_struck) .none kV__law_struck dc__law_struck pm__law_struck an__law_struck cd__law_struck ct__law_struck), sl__law_struck⟩)
    (c__law_struck : PySem.W.codeIn K cd__law_struck "_law_struck" = true)
    (k__law_struck : PySem.W.keepIn K (.ref f__law_struck) = true)
    (a__law_deep : PySem.W.nsIn K mainGlobals "_law_deep" = some (some (.ref f__law_deep)))
    (l__law_deep : K.lookup f__law_deep = some ⟨oc__law_deep, od__law_deep, .func (PySem.W.fnOf "_law_deep" "_law_deep" (defArgs s__law_deep) (defBody s__law_deep) (defScope s__law_deep) .none kV__law_deep dc__law_deep pm__law_deep an__law_deep cd__law_deep ct__law_deep), sl__law_deep⟩)
    (c__law_deep : PySem.W.codeIn K cd__law_deep "_law_deep" = true)
    (k__law_deep : PySem.W.keepIn K (.ref f__law_deep) = true)
    (a_law : PySem.W.nsIn K mainGlobals "law" = some (some (.ref f_law)))
    (l_law : K.lookup f_law = some ⟨oc_law, od_law, .func (PySem.W.fnOf "law" "law" (defArgs s_law) (defBody s_law) (defScope s_law) .none kV_law dc_law pm_law an_law cd_law ct_law), sl_law⟩)
    (c_law : PySem.W.codeIn K cd_law "law" = true)
    (k_law : PySem.W.keepIn K (.ref f_law) = true)
    (z_range : PySem.W.nsIn K mainGlobals "range" = some none)
    (z_len : PySem.W.nsIn K mainGlobals "len" = some none)
    (z_int : PySem.W.nsIn K mainGlobals "int" = some none)
    (z_tuple : PySem.W.nsIn K mainGlobals "tuple" = some none)
    (z_enumerate : PySem.W.nsIn K mainGlobals "enumerate" = some none)
    (z_sorted : PySem.W.nsIn K mainGlobals "sorted" = some none)
    (z_zip : PySem.W.nsIn K mainGlobals "zip" = some none)
    (z_list : PySem.W.nsIn K mainGlobals "list" = some none)
    (z_repr : PySem.W.nsIn K mainGlobals "repr" = some none)
    (v_LETTERS : PySem.W.nsIn K mainGlobals "LETTERS" = some (some (.str (Str.ofString "abcdefghijklmnopqrstuvwxyz") tk_LETTERS)))
    (aC_BadCount : PySem.W.nsIn K mainGlobals "BadCount" = some (some (.ref C_BadCount)))
    (eC_BadCount : PySem.W.subIn K (.ref C_BadCount) (.type "BaseException") = some true)
    (tC_BadCount : PySem.W.typeIn K (.ref C_BadCount) = some (.type "type"))
    (hC_BadCount : PySem.W.hasDictIn K C_BadCount = true)
    (iC_BadCount : PySem.W.isClsIn K C_BadCount = true)
    (aC_BadAlphabet : PySem.W.nsIn K mainGlobals "BadAlphabet" = some (some (.ref C_BadAlphabet)))
    (eC_BadAlphabet : PySem.W.subIn K (.ref C_BadAlphabet) (.type "BaseException") = some true)
    (tC_BadAlphabet : PySem.W.typeIn K (.ref C_BadAlphabet) = some (.type "type"))
    (hC_BadAlphabet : PySem.W.hasDictIn K C_BadAlphabet = true)
    (iC_BadAlphabet : PySem.W.isClsIn K C_BadAlphabet = true)
    (aC_BadWord : PySem.W.nsIn K mainGlobals "BadWord" = some (some (.ref C_BadWord)))
    (eC_BadWord : PySem.W.subIn K (.ref C_BadWord) (.type "BaseException") = some true)
    (tC_BadWord : PySem.W.typeIn K (.ref C_BadWord) = some (.type "type"))
    (hC_BadWord : PySem.W.hasDictIn K C_BadWord = true)
    (iC_BadWord : PySem.W.isClsIn K C_BadWord = true)
    (gn : PySem.W.specialIn K (.builtin "object.__class__") "__get__" = some (some (.builtin "getset_descriptor.__get__")))
    (gt : PySem.W.takesIn K (.builtin "object.__class__") = some true)
    (x_BadCount : K.lookup C_BadCount = some (excClassObj nm_BadCount q_BadCount C_BadCount N_BadCount bs_BadCount bm_BadCount true sn_BadCount sub_BadCount ab_BadCount col_BadCount dd_BadCount m0_BadCount m1_BadCount m2_BadCount m3_BadCount m5_BadCount "ValueError.__new__"))
    (r_BadCount : PySem.HandSPX.refsVE bm_BadCount = true)
    (sa_BadCount : PySem.W.findIn K (.ref C_BadCount) "__setattr__" = some (some (.builtin "object.__setattr__")))
    (ga_BadCount : PySem.W.findIn K (.ref C_BadCount) "__getattribute__" = some (some (.builtin "BaseException.__getattribute__")))
    (gg_BadCount : PySem.W.findIn K (.ref C_BadCount) "__getattr__" = some none)
    (ha_BadCount : PySem.W.findIn K (.ref C_BadCount) "__class__" = some (some (.builtin "object.__class__")))
    (hm_BadCount : PySem.W.mroIn K C_BadCount (.type "object") = some true)
    (no_BadCount : PySem.W.findIn K (.ref C_BadCount) "length" = some none)
    (kC_BadCount : PySem.W.keepIn K (.ref C_BadCount) = true)
    (fi_BadCount : PySem.W.findIn K (.ref C_BadCount) "__init__" = some (some (.ref fI_BadCount)))
    (ti_BadCount : PySem.W.typeIn K (.ref fI_BadCount) = some (.type "function"))
    (li_BadCount : K.lookup fI_BadCount = some ⟨ocI_BadCount, odI_BadCount, .func (PySem.W.fnOf "__init__" "BadCount.__init__" (defArgs sI_BadCount) (defBody sI_BadCount) (defScope sI_BadCount) .none kVI_BadCount dcI_BadCount pmI_BadCount anI_BadCount cdI_BadCount ctI_BadCount), slI_BadCount⟩)
    (ci_BadCount : PySem.W.codeIn K cdI_BadCount "BadCount.__init__" = true)
    (ki_BadCount : PySem.W.keepIn K (.ref fI_BadCount) = true)
    (x_BadAlphabet : K.lookup C_BadAlphabet = some (excClassObj nm_BadAlphabet q_BadAlphabet C_BadAlphabet N_BadAlphabet bs_BadAlphabet bm_BadAlphabet true sn_BadAlphabet sub_BadAlphabet ab_BadAlphabet col_BadAlphabet dd_BadAlphabet m0_BadAlphabet m1_BadAlphabet m2_BadAlphabet m3_BadAlphabet m5_BadAlphabet "ValueError.__new__"))
    (r_BadAlphabet : PySem.HandSPX.refsVE bm_BadAlphabet = true)
    (sa_BadAlphabet : PySem.W.findIn K (.ref C_BadAlphabet) "__setattr__" = some (some (.builtin "object.__setattr__")))
    (ga_BadAlphabet : PySem.W.findIn K (.ref C_BadAlphabet) "__getattribute__" = some (some (.builtin "BaseException.__getattribute__")))
    (gg_BadAlphabet : PySem.W.findIn K (.ref C_BadAlphabet) "__getattr__" = some none)
    (ha_BadAlphabet : PySem.W.findIn K (.ref C_BadAlphabet) "__class__" = some (some (.builtin "object.__class__")))
    (hm_BadAlphabet : PySem.W.mroIn K C_BadAlphabet (.type "object") = some true)
    (no_BadAlphabet : PySem.W.findIn K (.ref C_BadAlphabet) "alphabet" = some none)
    (kC_BadAlphabet : PySem.W.keepIn K (.ref C_BadAlphabet) = true)
    (fi_BadAlphabet : PySem.W.findIn K (.ref C_BadAlphabet) "__init__" = some (some (.ref fI_BadAlphabet)))
    (ti_BadAlphabet : PySem.W.typeIn K (.ref fI_BadAlphabet) = some (.type "function"))
    (li_BadAlphabet : K.lookup fI_BadAlphabet = some ⟨ocI_BadAlphabet, odI_BadAlphabet, .func (PySem.W.fnOf "__init__" "BadAlphabet.__init__" (defArgs sI_BadAlphabet) (defBody sI_BadAlphabet) (defScope sI_BadAlphabet) .none kVI_BadAlphabet dcI_BadAlphabet pmI_BadAlphabet anI_BadAlphabet cdI_BadAlphabet ctI_BadAlphabet), slI_BadAlphabet⟩)
    (ci_BadAlphabet : PySem.W.codeIn K cdI_BadAlphabet "BadAlphabet.__init__" = true)
    (ki_BadAlphabet : PySem.W.keepIn K (.ref fI_BadAlphabet) = true)
    (x_BadWord : K.lookup C_BadWord = some (excClassObj nm_BadWord q_BadWord C_BadWord N_BadWord bs_BadWord bm_BadWord true sn_BadWord sub_BadWord ab_BadWord col_BadWord dd_BadWord m0_BadWord m1_BadWord m2_BadWord m3_BadWord m5_BadWord "ValueError.__new__"))
    (r_BadWord : PySem.HandSPX.refsVE bm_BadWord = true)
    (sa_BadWord : PySem.W.findIn K (.ref C_BadWord) "__setattr__" = some (some (.builtin "object.__setattr__")))
    (ga_BadWord : PySem.W.findIn K (.ref C_BadWord) "__getattribute__" = some (some (.builtin "BaseException.__getattribute__")))
    (gg_BadWord : PySem.W.findIn K (.ref C_BadWord) "__getattr__" = some none)
    (ha_BadWord : PySem.W.findIn K (.ref C_BadWord) "__class__" = some (some (.builtin "object.__class__")))
    (hm_BadWord : PySem.W.mroIn K C_BadWord (.type "object") = some true)
    (no_BadWord : PySem.W.findIn K (.ref C_BadWord) "word" = some none)
    (kC_BadWord : PySem.W.keepIn K (.ref C_BadWord) = true)
    (fi_BadWord : PySem.W.findIn K (.ref C_BadWord) "__init__" = some (some (.ref fI_BadWord)))
    (ti_BadWord : PySem.W.typeIn K (.ref fI_BadWord) = some (.type "function"))
    (li_BadWord : K.lookup fI_BadWord = some ⟨ocI_BadWord, odI_BadWord, .func (PySem.W.fnOf "__init__" "BadWord.__init__" (defArgs sI_BadWord) (defBody sI_BadWord) (defScope sI_BadWord) .none kVI_BadWord dcI_BadWord pmI_BadWord anI_BadWord cdI_BadWord ctI_BadWord), slI_BadWord⟩)
    (ci_BadWord : PySem.W.codeIn K cdI_BadWord "BadWord.__init__" = true)
    (ki_BadWord : PySem.W.keepIn K (.ref fI_BadWord) = true)
    : ∃ fd : FuncData, (∀ (s : Shared) (v : Value), BindsTo s fd ⟨[v], []⟩ [("script", v)]) ∧ ∀ base : Heap, K.In base → base.Ns mainGlobals mg → FnOkG l.prog w K mg base CX0 8 fa fd ["script"] (sp_law K) := by
  have e := hfa.symm.trans (PySem.W.mg_of KX G a_law)
  cases e
  have F__law_alphabet := fun_mk (st := s__law_alphabet) l__law_alphabet c__law_alphabet k__law_alphabet
  have B__law_alphabet := F__law_alphabet.binds (ps := ["row"]) fun _ _ _ _ _ _ us hl => match us, hl with | [_], _ => rfl
  have F__law_digits := fun_mk (st := s__law_digits) l__law_digits c__law_digits k__law_digits
  have B__law_digits := F__law_digits.binds (ps := ["cell", "bases"]) fun _ _ _ _ _ _ us hl => match us, hl with | [_, _], _ => rfl
  have F__law_word := fun_mk (st := s__law_word) l__law_word c__law_word k__law_word
  have B__law_word := F__law_word.binds (ps := ["alphabet", "row", "many"]) fun _ _ _ _ _ _ us hl => match us, hl with | [_, _, _], _ => rfl
  have F__law_cell := fun_mk (st := s__law_cell) l__law_cell c__law_cell k__law_cell
  have B__law_cell := F__law_cell.binds (ps := ["script", "k"]) fun _ _ _ _ _ _ us hl => match us, hl with | [_, _], _ => rfl
  have F__law_eight := fun_mk (st := s__law_eight) l__law_eight c__law_eight k__law_eight
  have B__law_eight := F__law_eight.binds (ps := ["script", "at", "alphabet", "depth"]) fun _ _ _ _ _ _ us hl => match us, hl with | [_, _, _, _], _ => rfl
  have F_swapped := fun_mk (st := s_swapped) l_swapped c_swapped k_swapped
  have B_swapped := F_swapped.binds (ps := ["sign"]) fun _ _ _ _ _ _ us hl => match us, hl with | [_], _ => rfl
  have F_struck := fun_mk (st := s_struck) l_struck c_struck k_struck
  have B_struck := F_struck.binds (ps := ["word"]) fun _ _ _ _ _ _ us hl => match us, hl with | [_], _ => rfl
  have F_undone := fun_mk (st := s_undone) l_undone c_undone k_undone
  have B_undone := F_undone.binds (ps := ["word"]) fun _ _ _ _ _ _ us hl => match us, hl with | [_], _ => rfl
  have F_detour := fun_mk (st := s_detour) l_detour c_detour k_detour
  have B_detour := F_detour.binds (ps := ["one", "two"]) fun _ _ _ _ _ _ us hl => match us, hl with | [_, _], _ => rfl
  have F_deep_detour := fun_mk (st := s_deep_detour) l_deep_detour c_deep_detour k_deep_detour
  have B_deep_detour := F_deep_detour.binds (ps := ["words"]) fun _ _ _ _ _ _ us hl => match us, hl with | [_], _ => rfl
  have F_is_alphabet := fun_mk (st := s_is_alphabet) l_is_alphabet c_is_alphabet k_is_alphabet
  have B_is_alphabet := F_is_alphabet.binds (ps := ["value"]) fun _ _ _ _ _ _ us hl => match us, hl with | [_], _ => rfl
  have F_check_alphabet := fun_mk (st := s_check_alphabet) l_check_alphabet c_check_alphabet k_check_alphabet
  have B_check_alphabet := F_check_alphabet.binds (ps := ["alphabet"]) fun _ _ _ _ _ _ us hl => match us, hl with | [_], _ => rfl
  have F_is_word := fun_mk (st := s_is_word) l_is_word c_is_word k_is_word
  have B_is_word := F_is_word.binds (ps := ["alphabet", "value"]) fun _ _ _ _ _ _ us hl => match us, hl with | [_, _], _ => rfl
  have F_check_word := fun_mk (st := s_check_word) l_check_word c_check_word k_check_word
  have B_check_word := F_check_word.binds (ps := ["alphabet", "word"]) fun _ _ _ _ _ _ us hl => match us, hl with | [_, _], _ => rfl
  have F_check_words := fun_mk (st := s_check_words) l_check_words c_check_words k_check_words
  have B_check_words := F_check_words.binds (ps := ["alphabet", "words"]) fun _ _ _ _ _ _ us hl => match us, hl with | [_, _], _ => rfl
  have F_numbered := fun_mk (st := s_numbered) l_numbered c_numbered k_numbered
  have B_numbered := F_numbered.binds (ps := ["values"]) fun _ _ _ _ _ _ us hl => match us, hl with | [_], _ => rfl
  have F_sign_index := fun_mk (st := s_sign_index) l_sign_index c_sign_index k_sign_index
  have B_sign_index := F_sign_index.binds (ps := ["alphabet", "sign"]) fun _ _ _ _ _ _ us hl => match us, hl with | [_, _], _ => rfl
  have F_sign_direction := fun_mk (st := s_sign_direction) l_sign_direction c_sign_direction k_sign_direction
  have B_sign_direction := F_sign_direction.binds (ps := ["sign"]) fun _ _ _ _ _ _ us hl => match us, hl with | [_], _ => rfl
  have F_road_of := fun_mk (st := s_road_of) l_road_of c_road_of k_road_of
  have B_road_of := F_road_of.binds (ps := ["alphabet", "word", "row", "place"]) fun _ _ _ _ _ _ us hl => match us, hl with | [_, _, _, _], _ => rfl
  have F_counts_along := fun_mk (st := s_counts_along) l_counts_along c_counts_along k_counts_along
  have B_counts_along := F_counts_along.binds (ps := ["alphabet", "word", "row"]) fun _ _ _ _ _ _ us hl => match us, hl with | [_, _, _], _ => rfl
  have F_next_classes := fun_mk (st := s_next_classes) l_next_classes c_next_classes k_next_classes
  have B_next_classes := F_next_classes.binds (ps := ["alphabet", "words", "rows"]) fun _ _ _ _ _ _ us hl => match us, hl with | [_, _, _], _ => rfl
  have F_raw_classes := fun_mk (st := s_raw_classes) l_raw_classes c_raw_classes k_raw_classes
  have B_raw_classes := F_raw_classes.binds (ps := ["alphabet", "words", "storeys"]) fun _ _ _ _ _ _ us hl => match us, hl with | [_, _, _], _ => rfl
  have F_are_one := fun_mk (st := s_are_one) l_are_one c_are_one k_are_one
  have B_are_one := F_are_one.binds (ps := ["alphabet", "one", "two", "storeys"]) fun _ _ _ _ _ _ us hl => match us, hl with | [_, _, _, _], _ => rfl
  have F_one_at := fun_mk (st := s_one_at) l_one_at c_one_at k_one_at
  have B_one_at := F_one_at.binds (ps := ["alphabet", "one", "two", "storeys"]) fun _ _ _ _ _ _ us hl => match us, hl with | [_, _, _, _], _ => rfl
  have F__law_swapped := fun_mk (st := s__law_swapped) l__law_swapped c__law_swapped k__law_swapped
  have B__law_swapped := F__law_swapped.binds (ps := ["sign"]) fun _ _ _ _ _ _ us hl => match us, hl with | [_], _ => rfl
  have F__law_undone := fun_mk (st := s__law_undone) l__law_undone c__law_undone k__law_undone
  have B__law_undone := F__law_undone.binds (ps := ["word"]) fun _ _ _ _ _ _ us hl => match us, hl with | [_], _ => rfl
  have F__law_class_rows := fun_mk (st := s__law_class_rows) l__law_class_rows c__law_class_rows k__law_class_rows
  have B__law_class_rows := F__law_class_rows.binds (ps := ["alphabet", "words", "storeys"]) fun _ _ _ _ _ _ us hl => match us, hl with | [_, _, _], _ => rfl
  have F__law_one := fun_mk (st := s__law_one) l__law_one c__law_one k__law_one
  have B__law_one := F__law_one.binds (ps := ["alphabet", "one", "two", "storeys"]) fun _ _ _ _ _ _ us hl => match us, hl with | [_, _, _, _], _ => rfl
  have F__law_struck := fun_mk (st := s__law_struck) l__law_struck c__law_struck k__law_struck
  have B__law_struck := F__law_struck.binds (ps := ["word"]) fun _ _ _ _ _ _ us hl => match us, hl with | [_], _ => rfl
  have F__law_deep := fun_mk (st := s__law_deep) l__law_deep c__law_deep k__law_deep
  have B__law_deep := F__law_deep.binds (ps := ["words"]) fun _ _ _ _ _ _ us hl => match us, hl with | [_], _ => rfl
  have F_law := fun_mk (st := s_law) l_law c_law k_law
  have B_law := F_law.binds (ps := ["script"]) fun _ _ _ _ _ _ us hl => match us, hl with | [_], _ => rfl
  have m_range := PySem.W.mg_none_of KX G z_range
  have m_len := PySem.W.mg_none_of KX G z_len
  have m_int := PySem.W.mg_none_of KX G z_int
  have m_tuple := PySem.W.mg_none_of KX G z_tuple
  have m_enumerate := PySem.W.mg_none_of KX G z_enumerate
  have m_sorted := PySem.W.mg_none_of KX G z_sorted
  have m_zip := PySem.W.mg_none_of KX G z_zip
  have m_list := PySem.W.mg_none_of KX G z_list
  have m_repr := PySem.W.mg_none_of KX G z_repr
  have g_LETTERS : ∃ u, mg "LETTERS" = some u ∧ RelV (V.str (S' [97, 98, 99, 100, 101, 102, 103, 104, 105, 106, 107, 108, 109, 110, 111, 112, 113, 114, 115, 116, 117, 118, 119, 120, 121, 122])) u := ⟨_, PySem.W.mg_of KX G v_LETTERS, tk_LETTERS, by rw [show Str.ofString "abcdefghijklmnopqrstuvwxyz" = (S' [97, 98, 99, 100, 101, 102, 103, 104, 105, 106, 107, 108, 109, 110, 111, 112, 113, 114, 115, 116, 117, 118, 119, 120, 121, 122]) by decide]⟩
  have gC_BadCount := PySem.W.mg_of KX G aC_BadCount
  have gC_BadAlphabet := PySem.W.mg_of KX G aC_BadAlphabet
  have gC_BadWord := PySem.W.mg_of KX G aC_BadWord
  have FI_BadCount := fun_mk (st := sI_BadCount) li_BadCount ci_BadCount ki_BadCount
  have BI_BadCount := FI_BadCount.binds (ps := ["self", "length"]) fun _ _ _ _ _ _ us hl => match us, hl with | [_, _], _ => rfl
  have OX_BadCount : OexC K C_BadCount := ⟨⟨_, _, _, _, _, _, _, _, _, _, _, _, _, _, _, x_BadCount, r_BadCount⟩, sa_BadCount, eC_BadCount, tC_BadCount, kC_BadCount⟩
  have XF_BadCount : XfC K C_BadCount := ⟨ga_BadCount, gg_BadCount, eC_BadCount, hC_BadCount⟩
  have XC_BadCount : ExcC K C_BadCount := ⟨ga_BadCount, gg_BadCount, eC_BadCount, hC_BadCount, ha_BadCount, gn, gt, hm_BadCount⟩
  have FI_BadAlphabet := fun_mk (st := sI_BadAlphabet) li_BadAlphabet ci_BadAlphabet ki_BadAlphabet
  have BI_BadAlphabet := FI_BadAlphabet.binds (ps := ["self", "alphabet"]) fun _ _ _ _ _ _ us hl => match us, hl with | [_, _], _ => rfl
  have OX_BadAlphabet : OexC K C_BadAlphabet := ⟨⟨_, _, _, _, _, _, _, _, _, _, _, _, _, _, _, x_BadAlphabet, r_BadAlphabet⟩, sa_BadAlphabet, eC_BadAlphabet, tC_BadAlphabet, kC_BadAlphabet⟩
  have XF_BadAlphabet : XfC K C_BadAlphabet := ⟨ga_BadAlphabet, gg_BadAlphabet, eC_BadAlphabet, hC_BadAlphabet⟩
  have XC_BadAlphabet : ExcC K C_BadAlphabet := ⟨ga_BadAlphabet, gg_BadAlphabet, eC_BadAlphabet, hC_BadAlphabet, ha_BadAlphabet, gn, gt, hm_BadAlphabet⟩
  have FI_BadWord := fun_mk (st := sI_BadWord) li_BadWord ci_BadWord ki_BadWord
  have BI_BadWord := FI_BadWord.binds (ps := ["self", "word"]) fun _ _ _ _ _ _ us hl => match us, hl with | [_, _], _ => rfl
  have OX_BadWord : OexC K C_BadWord := ⟨⟨_, _, _, _, _, _, _, _, _, _, _, _, _, _, _, x_BadWord, r_BadWord⟩, sa_BadWord, eC_BadWord, tC_BadWord, kC_BadWord⟩
  have XF_BadWord : XfC K C_BadWord := ⟨ga_BadWord, gg_BadWord, eC_BadWord, hC_BadWord⟩
  have XC_BadWord : ExcC K C_BadWord := ⟨ga_BadWord, gg_BadWord, eC_BadWord, hC_BadWord, ha_BadWord, gn, gt, hm_BadWord⟩
  refine ⟨PySem.W.fnOf "law" "law" (defArgs s_law) (defBody s_law) (defScope s_law) .none kV_law dc_law pm_law an_law cd_law ct_law, fun s v => .of_eq rfl, fun base KB GB => ?_⟩
  have x_BadCount : ExT l.prog w K mg base "BadCount" "length" C_BadCount := ⟨gC_BadCount, OX_BadCount, XF_BadCount, XC_BadCount, no_BadCount, fI_BadCount, _, fi_BadCount, ti_BadCount, init_BadCount FI_BadCount OX_BadCount no_BadCount, BI_BadCount⟩
  have x_BadAlphabet : ExT l.prog w K mg base "BadAlphabet" "alphabet" C_BadAlphabet := ⟨gC_BadAlphabet, OX_BadAlphabet, XF_BadAlphabet, XC_BadAlphabet, no_BadAlphabet, fI_BadAlphabet, _, fi_BadAlphabet, ti_BadAlphabet, init_BadAlphabet FI_BadAlphabet OX_BadAlphabet no_BadAlphabet, BI_BadAlphabet⟩
  have x_BadWord : ExT l.prog w K mg base "BadWord" "word" C_BadWord := ⟨gC_BadWord, OX_BadWord, XF_BadWord, XC_BadWord, no_BadWord, fI_BadWord, _, fi_BadWord, ti_BadWord, init_BadWord FI_BadWord OX_BadWord no_BadWord, BI_BadWord⟩
  have O__law_alphabet := def_okG (P := l.prog) (w := w) (mg := mg) (base := base) F__law_alphabet sc__law_alphabet (fun _ => rfl) (t := t__law_alphabet l.prog w K E0 ) (fun cdv A outer s H E hG hr => d__law_alphabet  _ cdv A outer s H E0 hG hr) (fun a E h => run_E (run_alphabet a E0 h) ⟨_, rfl⟩)
  have c__law_alphabet : Cal l.prog w K mg base CX0 1 "_law_alphabet" ["row"] [] (sp_alphabet K) := ⟨f__law_alphabet, _, [], O__law_alphabet, PySem.W.mg_of KX G a__law_alphabet, F__law_alphabet.kp, B__law_alphabet, .nil⟩
  have O__law_digits := def_okG (P := l.prog) (w := w) (mg := mg) (base := base) F__law_digits sc__law_digits (fun _ => rfl) (t := t__law_digits l.prog w K E0 ) (fun cdv A outer s H E hG hr => d__law_digits m_range m_len m_int _ cdv A outer s H E0 hG hr) (fun a E h => run_E (run_digits a E0 h) ⟨_, rfl⟩)
  have c__law_digits : Cal l.prog w K mg base CX0 1 "_law_digits" ["cell", "bases"] [] (sp_digits K) := ⟨f__law_digits, _, [], O__law_digits, PySem.W.mg_of KX G a__law_digits, F__law_digits.kp, B__law_digits, .nil⟩
  have O__law_word := def_okG (P := l.prog) (w := w) (mg := mg) (base := base) F__law_word sc__law_word (fun _ => rfl) (t := t__law_word l.prog w K E0 ) (fun cdv A outer s H E hG hr => d__law_word m_range m_int m_len _ cdv A outer s H E0 hG hr) (fun a E h => run_E (run_word a E0 h) ⟨_, rfl⟩)
  have c__law_word : Cal l.prog w K mg base CX0 1 "_law_word" ["alphabet", "row", "many"] [] (sp_word K) := ⟨f__law_word, _, [], O__law_word, PySem.W.mg_of KX G a__law_word, F__law_word.kp, B__law_word, .nil⟩
  have O__law_cell := def_okG (P := l.prog) (w := w) (mg := mg) (base := base) F__law_cell sc__law_cell (fun _ => rfl) (t := t__law_cell l.prog w K E0 ) (fun cdv A outer s H E hG hr => d__law_cell m_int m_len _ cdv A outer s H E0 hG hr) (fun a E h => run_E (run_cell a E0 h) ⟨_, rfl⟩)
  have c__law_cell : Cal l.prog w K mg base CX0 1 "_law_cell" ["script", "k"] [] (sp_cell K) := ⟨f__law_cell, _, [], O__law_cell, PySem.W.mg_of KX G a__law_cell, F__law_cell.kp, B__law_cell, .nil⟩
  have O__law_eight := def_okG (P := l.prog) (w := w) (mg := mg) (base := base) F__law_eight sc__law_eight (fun _ => rfl) (t := t__law_eight l.prog w K E0 (sp_word K) (sp_digits K) (sp_cell K)) (fun cdv A outer s H E hG hr => d__law_eight c__law_word c__law_digits c__law_cell m_range m_len m_int _ cdv A outer s H E0 hG hr) (fun a E h => run_E (run_eight a E0 h) ⟨_, rfl⟩)
  have c__law_eight : Cal l.prog w K mg base CX0 2 "_law_eight" ["script", "at", "alphabet", "depth"] [] (sp_eight K) := ⟨f__law_eight, _, [], O__law_eight, PySem.W.mg_of KX G a__law_eight, F__law_eight.kp, B__law_eight, .nil⟩
  have O_swapped := def_okG (P := l.prog) (w := w) (mg := mg) (base := base) F_swapped sc_swapped (fun _ => rfl) (t := t__law_swapped l.prog w K E0 ) (fun cdv A outer s H E hG hr => d_swapped  _ cdv A outer s H E0 hG hr) (fun a E h => run_E (run_swapped a E0 h) ⟨_, rfl⟩)
  have c_swapped : Cal l.prog w K mg base CX0 1 "swapped" ["sign"] [] (sp_swapped K) := ⟨f_swapped, _, [], O_swapped, PySem.W.mg_of KX G a_swapped, F_swapped.kp, B_swapped, .nil⟩
  have O_struck := def_okG (P := l.prog) (w := w) (mg := mg) (base := base) F_struck sc_struck (fun _ => rfl) (t := t_struck l.prog w K E0 (sp_swapped K)) (fun cdv A outer s H E hG hr => d_struck c_swapped _ cdv A outer s H E0 hG hr) (fun a E h => run_E (run_struckP a E0 h) ⟨_, rfl⟩)
  have c_struck : Cal l.prog w K mg base CX0 2 "struck" ["word"] [] (sp_struck K) := ⟨f_struck, _, [], O_struck, PySem.W.mg_of KX G a_struck, F_struck.kp, B_struck, .nil⟩
  have O_undone := def_okG (P := l.prog) (w := w) (mg := mg) (base := base) F_undone sc_undone (fun _ => rfl) (t := t_undone l.prog w K E0 (sp_swapped K)) (fun cdv A outer s H E hG hr => d_undone c_swapped _ cdv A outer s H E0 hG hr) (fun a E h => run_E (run_undoneP a E0 h) ⟨_, rfl⟩)
  have c_undone : Cal l.prog w K mg base CX0 2 "undone" ["word"] [] (sp_undone K) := ⟨f_undone, _, [], O_undone, PySem.W.mg_of KX G a_undone, F_undone.kp, B_undone, .nil⟩
  have O_detour := def_okG (P := l.prog) (w := w) (mg := mg) (base := base) F_detour sc_detour (fun _ => rfl) (t := t_detour l.prog w K E0 (sp_struck K) (sp_undone K)) (fun cdv A outer s H E hG hr => d_detour c_struck c_undone _ cdv A outer s H E0 hG hr) (fun a E h => run_E (run_detour a E0 h) ⟨_, rfl⟩)
  have c_detour : Cal l.prog w K mg base CX0 3 "detour" ["one", "two"] [] (sp_own K) := ⟨f_detour, _, [], O_detour, PySem.W.mg_of KX G a_detour, F_detour.kp, B_detour, .nil⟩
  have O_deep_detour := def_okGX F_deep_detour sc_deep_detour (fun _ => rfl) (t := fun E => t_deep_detour l.prog w K E (sp_own K) (sp_struck K) C_BadCount) (fun cdv A outer s H E hG hr => d_deep_detour c_detour c_struck x_BadCount m_len m_range _ cdv A outer s H E hG hr) (fun a E h => run_deepP a E h)
  have c_deep_detour : Cal l.prog w K mg base (L2.CX l.prog w) 4 "deep_detour" ["words"] [] (sp_deep K) := ⟨f_deep_detour, _, [], O_deep_detour, PySem.W.mg_of KX G a_deep_detour, F_deep_detour.kp, B_deep_detour, .nil⟩
  have O_is_alphabet := def_okG (P := l.prog) (w := w) (mg := mg) (base := base) F_is_alphabet sc_is_alphabet (fun _ => rfl) (t := t_is_alphabet l.prog w K E0 ) (fun cdv A outer s H E hG hr => d_is_alphabet m_range m_len g_LETTERS _ cdv A outer s H E0 hG hr) (fun a E h => run_E (run_isAl a E0 h) ⟨_, rfl⟩)
  have c_is_alphabet : Cal l.prog w K mg base CX0 1 "is_alphabet" ["value"] [] (sp_isAl K) := ⟨f_is_alphabet, _, [], O_is_alphabet, PySem.W.mg_of KX G a_is_alphabet, F_is_alphabet.kp, B_is_alphabet, .nil⟩
  have O_check_alphabet := def_okGX F_check_alphabet sc_check_alphabet (fun _ => rfl) (t := fun E => t_check_alphabet l.prog w K E (sp_isAl K) C_BadAlphabet) (fun cdv A outer s H E hG hr => d_check_alphabet c_is_alphabet x_BadAlphabet _ cdv A outer s H E hG hr) (fun a E h => run_chAl C_BadAlphabet a E h)
  have c_check_alphabet : Cal l.prog w K mg base (L2.CX l.prog w) 3 "check_alphabet" ["alphabet"] [] (sp_chAl K C_BadAlphabet) := ⟨f_check_alphabet, _, [], O_check_alphabet, PySem.W.mg_of KX G a_check_alphabet, F_check_alphabet.kp, B_check_alphabet, .nil⟩
  have O_is_word := def_okG (P := l.prog) (w := w) (mg := mg) (base := base) F_is_word sc_is_word (fun _ => rfl) (t := t_is_word l.prog w K E0 ) (fun cdv A outer s H E hG hr => d_is_word  _ cdv A outer s H E0 hG hr) (fun a E h => run_E (run_isWd a E0 h) ⟨_, rfl⟩)
  have c_is_word : Cal l.prog w K mg base CX0 1 "is_word" ["alphabet", "value"] [] (sp_isWd K) := ⟨f_is_word, _, [], O_is_word, PySem.W.mg_of KX G a_is_word, F_is_word.kp, B_is_word, .nil⟩
  have O_check_word := def_okGX F_check_word sc_check_word (fun _ => rfl) (t := fun E => t_check_word l.prog w K E (sp_isWd K) C_BadWord) (fun cdv A outer s H E hG hr => d_check_word c_is_word x_BadWord _ cdv A outer s H E hG hr) (fun a E h => run_chWd C_BadWord a E h)
  have c_check_word : Cal l.prog w K mg base (L2.CX l.prog w) 3 "check_word" ["alphabet", "word"] [] (sp_chWd K C_BadWord) := ⟨f_check_word, _, [], O_check_word, PySem.W.mg_of KX G a_check_word, F_check_word.kp, B_check_word, .nil⟩
  have O_check_words := def_okGX F_check_words sc_check_words (fun _ => rfl) (t := fun E => t_check_words l.prog w K E (sp_chWd K C_BadWord) (sp_chAl K C_BadAlphabet)) (fun cdv A outer s H E hG hr => d_check_words c_check_word c_check_alphabet _ cdv A outer s H E hG hr) (fun a E h => run_chWs C_BadAlphabet C_BadWord a E h)
  have c_check_words : Cal l.prog w K mg base (L2.CX l.prog w) 4 "check_words" ["alphabet", "words"] [] (sp_chWs K C_BadAlphabet C_BadWord) := ⟨f_check_words, _, [], O_check_words, PySem.W.mg_of KX G a_check_words, F_check_words.kp, B_check_words, .nil⟩
  have O_numbered := def_okG (P := l.prog) (w := w) (mg := mg) (base := base) F_numbered sc_numbered (fun _ => rfl) (t := t_numbered l.prog w K E0 ) (fun cdv A outer s H E hG hr => d_numbered m_tuple m_len _ cdv A outer s H E0 hG hr) (fun a E h => run_E (run_numb a E0 h) ⟨_, rfl⟩)
  have c_numbered : Cal l.prog w K mg base CX0 1 "numbered" ["values"] [] (sp_numb K) := ⟨f_numbered, _, [], O_numbered, PySem.W.mg_of KX G a_numbered, F_numbered.kp, B_numbered, .nil⟩
  have O_sign_index := def_okG (P := l.prog) (w := w) (mg := mg) (base := base) F_sign_index sc_sign_index (fun _ => rfl) (t := t_sign_index l.prog w K E0 ) (fun cdv A outer s H E hG hr => d_sign_index  _ cdv A outer s H E0 hG hr) (fun a E h => run_E (run_sgIx a E0 h) ⟨_, rfl⟩)
  have c_sign_index : Cal l.prog w K mg base CX0 1 "sign_index" ["alphabet", "sign"] [] (sp_sgIx K) := ⟨f_sign_index, _, [], O_sign_index, PySem.W.mg_of KX G a_sign_index, F_sign_index.kp, B_sign_index, .nil⟩
  have O_sign_direction := def_okG (P := l.prog) (w := w) (mg := mg) (base := base) F_sign_direction sc_sign_direction (fun _ => rfl) (t := t_sign_direction l.prog w K E0 ) (fun cdv A outer s H E hG hr => d_sign_direction  _ cdv A outer s H E0 hG hr) (fun a E h => run_E (run_sgDir a E0 h) ⟨_, rfl⟩)
  have c_sign_direction : Cal l.prog w K mg base CX0 1 "sign_direction" ["sign"] [] (sp_sgDir K) := ⟨f_sign_direction, _, [], O_sign_direction, PySem.W.mg_of KX G a_sign_direction, F_sign_direction.kp, B_sign_direction, .nil⟩
  have O_road_of := def_okG (P := l.prog) (w := w) (mg := mg) (base := base) F_road_of sc_road_of (fun _ => rfl) (t := t_road_of l.prog w K E0 (sp_sgDir K) (sp_sgIx K)) (fun cdv A outer s H E hG hr => d_road_of c_sign_direction c_sign_index _ cdv A outer s H E0 hG hr) (fun a E h => run_E (run_road a E0 h) ⟨_, rfl⟩)
  have c_road_of : Cal l.prog w K mg base CX0 2 "road_of" ["alphabet", "word", "row", "place"] [] (sp_road K) := ⟨f_road_of, _, [], O_road_of, PySem.W.mg_of KX G a_road_of, F_road_of.kp, B_road_of, .nil⟩
  have O_counts_along := def_okG (P := l.prog) (w := w) (mg := mg) (base := base) F_counts_along sc_counts_along (fun _ => rfl) (t := t_counts_along l.prog w K E0 (sp_sgDir K) (sp_road K)) (fun cdv A outer s H E hG hr => d_counts_along c_sign_direction c_road_of m_enumerate m_tuple m_sorted _ cdv A outer s H E0 hG hr) (fun a E h => run_E (run_along a E0 h) ⟨_, rfl⟩)
  have c_counts_along : Cal l.prog w K mg base CX0 3 "counts_along" ["alphabet", "word", "row"] [] (sp_along K) := ⟨f_counts_along, _, [], O_counts_along, PySem.W.mg_of KX G a_counts_along, F_counts_along.kp, B_counts_along, .nil⟩
  have O_next_classes := def_okG (P := l.prog) (w := w) (mg := mg) (base := base) F_next_classes sc_next_classes (fun _ => rfl) (t := t_next_classes l.prog w K E0 (sp_numb K) (sp_along K)) (fun cdv A outer s H E hG hr => d_next_classes c_numbered c_counts_along m_zip _ cdv A outer s H E0 hG hr) (fun a E h => run_E (run_nextc a E0 h) ⟨_, rfl⟩)
  have c_next_classes : Cal l.prog w K mg base CX0 4 "next_classes" ["alphabet", "words", "rows"] [] (sp_next K) := ⟨f_next_classes, _, [], O_next_classes, PySem.W.mg_of KX G a_next_classes, F_next_classes.kp, B_next_classes, .nil⟩
  have O_raw_classes := def_okG (P := l.prog) (w := w) (mg := mg) (base := base) F_raw_classes sc_raw_classes (fun _ => rfl) (t := t_raw_classes l.prog w K E0 (sp_next K)) (fun cdv A outer s H E hG hr => d_raw_classes c_next_classes m_range m_tuple m_len _ cdv A outer s H E0 hG hr) (fun a E h => run_E (run_raw a E0 h) ⟨_, rfl⟩)
  have c_raw_classes : Cal l.prog w K mg base CX0 5 "raw_classes" ["alphabet", "words", "storeys"] [] (sp_raw K) := ⟨f_raw_classes, _, [], O_raw_classes, PySem.W.mg_of KX G a_raw_classes, F_raw_classes.kp, B_raw_classes, .nil⟩
  have O_are_one := def_okG (P := l.prog) (w := w) (mg := mg) (base := base) F_are_one sc_are_one (fun _ => rfl) (t := t_are_one l.prog w K E0 (sp_raw K)) (fun cdv A outer s H E hG hr => d_are_one c_raw_classes _ cdv A outer s H E0 hG hr) (fun a E h => run_E (run_areone a E0 h) ⟨_, rfl⟩)
  have c_are_one : Cal l.prog w K mg base CX0 6 "are_one" ["alphabet", "one", "two", "storeys"] [] (sp_one K) := ⟨f_are_one, _, [], O_are_one, PySem.W.mg_of KX G a_are_one, F_are_one.kp, B_are_one, .nil⟩
  have O_one_at := def_okGX F_one_at sc_one_at (fun _ => rfl) (t := fun E => t_one_at l.prog w K E (sp_one K) (sp_chWs K C_BadAlphabet C_BadWord)) (fun cdv A outer s H E hG hr => d_one_at c_are_one c_check_words _ cdv A outer s H E hG hr) (fun a E h => run_oneat C_BadAlphabet C_BadWord a E h)
  have c_one_at : Cal l.prog w K mg base (L2.CX l.prog w) 7 "one_at" ["alphabet", "one", "two", "storeys"] [] (sp_one K) := ⟨f_one_at, _, [], O_one_at, PySem.W.mg_of KX G a_one_at, F_one_at.kp, B_one_at, .nil⟩
  have O__law_swapped := def_okG (P := l.prog) (w := w) (mg := mg) (base := base) F__law_swapped sc__law_swapped (fun _ => rfl) (t := t__law_swapped l.prog w K E0 ) (fun cdv A outer s H E hG hr => d__law_swapped  _ cdv A outer s H E0 hG hr) (fun a E h => run_E (run_swapped a E0 h) ⟨_, rfl⟩)
  have c__law_swapped : Cal l.prog w K mg base CX0 1 "_law_swapped" ["sign"] [] (sp_swapped K) := ⟨f__law_swapped, _, [], O__law_swapped, PySem.W.mg_of KX G a__law_swapped, F__law_swapped.kp, B__law_swapped, .nil⟩
  have O__law_undone := def_okG (P := l.prog) (w := w) (mg := mg) (base := base) F__law_undone sc__law_undone (fun _ => rfl) (t := t__law_undone l.prog w K E0 (sp_swapped K)) (fun cdv A outer s H E hG hr => d__law_undone c__law_swapped m_range m_len _ cdv A outer s H E0 hG hr) (fun a E h => run_E (run_undone a E0 h) ⟨_, rfl⟩)
  have c__law_undone : Cal l.prog w K mg base CX0 2 "_law_undone" ["word"] [] (sp_undone K) := ⟨f__law_undone, _, [], O__law_undone, PySem.W.mg_of KX G a__law_undone, F__law_undone.kp, B__law_undone, .nil⟩
  have O__law_class_rows := def_okG (P := l.prog) (w := w) (mg := mg) (base := base) F__law_class_rows sc__law_class_rows (fun _ => rfl) (t := t__law_class_rows l.prog w K E0 ) (fun cdv A outer s H E hG hr => d__law_class_rows m_range m_list m_len m_repr m_sorted m_int _ cdv A outer s H E0 hG hr) (fun a E h => run_E (run_crows a E0 h) ⟨_, rfl⟩)
  have c__law_class_rows : Cal l.prog w K mg base CX0 1 "_law_class_rows" ["alphabet", "words", "storeys"] [] (sp_crows K) := ⟨f__law_class_rows, _, [], O__law_class_rows, PySem.W.mg_of KX G a__law_class_rows, F__law_class_rows.kp, B__law_class_rows, .nil⟩
  have O__law_one := def_okG (P := l.prog) (w := w) (mg := mg) (base := base) F__law_one sc__law_one (fun _ => rfl) (t := t__law_one l.prog w K E0 (sp_crows K)) (fun cdv A outer s H E hG hr => d__law_one c__law_class_rows m_len _ cdv A outer s H E0 hG hr) (fun a E h => run_E (run_lawone a E0 h) ⟨_, rfl⟩)
  have c__law_one : Cal l.prog w K mg base CX0 2 "_law_one" ["alphabet", "one", "two", "storeys"] [] (sp_one K) := ⟨f__law_one, _, [], O__law_one, PySem.W.mg_of KX G a__law_one, F__law_one.kp, B__law_one, .nil⟩
  have O__law_struck := def_okG (P := l.prog) (w := w) (mg := mg) (base := base) F__law_struck sc__law_struck (fun _ => rfl) (t := t__law_struck l.prog w K E0 (sp_swapped K)) (fun cdv A outer s H E hG hr => d__law_struck c__law_swapped m_len _ cdv A outer s H E0 hG hr) (fun a E h => run_E (run_struck a E0 h) ⟨_, rfl⟩)
  have c__law_struck : Cal l.prog w K mg base CX0 2 "_law_struck" ["word"] [] (sp_struck K) := ⟨f__law_struck, _, [], O__law_struck, PySem.W.mg_of KX G a__law_struck, F__law_struck.kp, B__law_struck, .nil⟩
  have O__law_deep := def_okG (P := l.prog) (w := w) (mg := mg) (base := base) F__law_deep sc__law_deep (fun _ => rfl) (t := t__law_deep l.prog w K E0 (sp_struck K) (sp_undone K)) (fun cdv A outer s H E hG hr => d__law_deep c__law_struck c__law_undone m_range m_len _ cdv A outer s H E0 hG hr) (fun a E h => run_E (run_lawdeep a E0 h) ⟨_, rfl⟩)
  have c__law_deep : Cal l.prog w K mg base CX0 3 "_law_deep" ["words"] [] (sp_deep K) := ⟨f__law_deep, _, [], O__law_deep, PySem.W.mg_of KX G a__law_deep, F__law_deep.kp, B__law_deep, .nil⟩
  have O_law := def_okG (P := l.prog) (w := w) (mg := mg) (base := base) F_law sc_law (fun _ => rfl) (t := t_law_K57 l.prog w K E0 (sp_one K) (sp_undone K) (sp_one K) (sp_word K) (sp_digits K) (sp_cell K) (sp_deep K) (sp_deep K) (sp_eight K) (sp_alphabet K)) (fun cdv A outer s H E hG hr => d_law c_one_at c__law_undone c__law_one c__law_word c__law_digits c__law_cell c__law_deep c_deep_detour c__law_eight c__law_alphabet m_repr m_range m_int m_len _ cdv A outer s H E0 hG hr) (fun a E h => run_E (run_law57 a E0 h) ⟨_, rfl⟩)
  exact O_law
end K57
open PySem PySem.W PyProof.Rows
set_option maxHeartbeats 0 in
theorem PySem.Challenge.cw_twostoreys_k57_deep_detours_whole_holds : PySem.Challenge.rw_twostoreys_k57_deep_detours_whole.Holds := by
  w_on; o_law; k_head; (case hw => w_witness2)
  k_fill
  refine Sym.walk_G (l := PySem.Challenge.rw_twostoreys_k57_deep_detours_whole) (n := 63) (k := 8) (x := "script") (sp := fun K => Tw.sp_law K) rfl (by decide) rfl ⟨rfl, by decide, by decide⟩ (fun w h Y => PySem.W.kIn_of Y) ?F (fun K H a ns hl hS => Tw.law_goal hl hS hl)
  case F =>
    intro w mg fa h KX G hmg
    refine' K57.all_mk KX G hmg ?a__law_alphabet ?l__law_alphabet ?c__law_alphabet ?k__law_alphabet ?a__law_digits ?l__law_digits ?c__law_digits ?k__law_digits ?a__law_word ?l__law_word ?c__law_word ?k__law_word ?a__law_cell ?l__law_cell ?c__law_cell ?k__law_cell ?a__law_eight ?l__law_eight ?c__law_eight ?k__law_eight ?a_swapped ?l_swapped ?c_swapped ?k_swapped ?a_struck ?l_struck ?c_struck ?k_struck ?a_undone ?l_undone ?c_undone ?k_undone ?a_detour ?l_detour ?c_detour ?k_detour ?a_deep_detour ?l_deep_detour ?c_deep_detour ?k_deep_detour ?a_is_alphabet ?l_is_alphabet ?c_is_alphabet ?k_is_alphabet ?a_check_alphabet ?l_check_alphabet ?c_check_alphabet ?k_check_alphabet ?a_is_word ?l_is_word ?c_is_word ?k_is_word ?a_check_word ?l_check_word ?c_check_word ?k_check_word ?a_check_words ?l_check_words ?c_check_words ?k_check_words ?a_numbered ?l_numbered ?c_numbered ?k_numbered ?a_sign_index ?l_sign_index ?c_sign_index ?k_sign_index ?a_sign_direction ?l_sign_direction ?c_sign_direction ?k_sign_direction ?a_road_of ?l_road_of ?c_road_of ?k_road_of ?a_counts_along ?l_counts_along ?c_counts_along ?k_counts_along ?a_next_classes ?l_next_classes ?c_next_classes ?k_next_classes ?a_raw_classes ?l_raw_classes ?c_raw_classes ?k_raw_classes ?a_are_one ?l_are_one ?c_are_one ?k_are_one ?a_one_at ?l_one_at ?c_one_at ?k_one_at ?a__law_swapped ?l__law_swapped ?c__law_swapped ?k__law_swapped ?a__law_undone ?l__law_undone ?c__law_undone ?k__law_undone ?a__law_class_rows ?l__law_class_rows ?c__law_class_rows ?k__law_class_rows ?a__law_one ?l__law_one ?c__law_one ?k__law_one ?a__law_struck ?l__law_struck ?c__law_struck ?k__law_struck ?a__law_deep ?l__law_deep ?c__law_deep ?k__law_deep ?a_law ?l_law ?c_law ?k_law ?z_range ?z_len ?z_int ?z_tuple ?z_enumerate ?z_sorted ?z_zip ?z_list ?z_repr ?v_LETTERS ?aC_BadCount ?eC_BadCount ?tC_BadCount ?hC_BadCount ?iC_BadCount ?aC_BadAlphabet ?eC_BadAlphabet ?tC_BadAlphabet ?hC_BadAlphabet ?iC_BadAlphabet ?aC_BadWord ?eC_BadWord ?tC_BadWord ?hC_BadWord ?iC_BadWord ?gn ?gt ?x_BadCount ?r_BadCount ?sa_BadCount ?ga_BadCount ?gg_BadCount ?ha_BadCount ?hm_BadCount ?no_BadCount ?kC_BadCount ?fi_BadCount ?ti_BadCount ?li_BadCount ?ci_BadCount ?ki_BadCount ?x_BadAlphabet ?r_BadAlphabet ?sa_BadAlphabet ?ga_BadAlphabet ?gg_BadAlphabet ?ha_BadAlphabet ?hm_BadAlphabet ?no_BadAlphabet ?kC_BadAlphabet ?fi_BadAlphabet ?ti_BadAlphabet ?li_BadAlphabet ?ci_BadAlphabet ?ki_BadAlphabet ?x_BadWord ?r_BadWord ?sa_BadWord ?ga_BadWord ?gg_BadWord ?ha_BadWord ?hm_BadWord ?no_BadWord ?kC_BadWord ?fi_BadWord ?ti_BadWord ?li_BadWord ?ci_BadWord ?ki_BadWord
    (case a__law_alphabet => first | k_is | rfl); (case l__law_alphabet => first | k_is | rfl); (case c__law_alphabet => first | k_is | rfl); (case k__law_alphabet => first | k_is | rfl); (case a__law_digits => first | k_is | rfl); (case l__law_digits => first | k_is | rfl); (case c__law_digits => first | k_is | rfl); (case k__law_digits => first | k_is | rfl); (case a__law_word => first | k_is | rfl); (case l__law_word => first | k_is | rfl); (case c__law_word => first | k_is | rfl); (case k__law_word => first | k_is | rfl); (case a__law_cell => first | k_is | rfl); (case l__law_cell => first | k_is | rfl); (case c__law_cell => first | k_is | rfl); (case k__law_cell => first | k_is | rfl); (case a__law_eight => first | k_is | rfl); (case l__law_eight => first | k_is | rfl); (case c__law_eight => first | k_is | rfl); (case k__law_eight => first | k_is | rfl); (case a_swapped => first | k_is | rfl); (case l_swapped => first | k_is | rfl); (case c_swapped => first | k_is | rfl); (case k_swapped => first | k_is | rfl); (case a_struck => first | k_is | rfl); (case l_struck => first | k_is | rfl); (case c_struck => first | k_is | rfl); (case k_struck => first | k_is | rfl); (case a_undone => first | k_is | rfl); (case l_undone => first | k_is | rfl); (case c_undone => first | k_is | rfl); (case k_undone => first | k_is | rfl); (case a_detour => first | k_is | rfl); (case l_detour => first | k_is | rfl); (case c_detour => first | k_is | rfl); (case k_detour => first | k_is | rfl); (case a_deep_detour => first | k_is | rfl); (case l_deep_detour => first | k_is | rfl); (case c_deep_detour => first | k_is | rfl); (case k_deep_detour => first | k_is | rfl); (case a_is_alphabet => first | k_is | rfl); (case l_is_alphabet => first | k_is | rfl); (case c_is_alphabet => first | k_is | rfl); (case k_is_alphabet => first | k_is | rfl); (case a_check_alphabet => first | k_is | rfl); (case l_check_alphabet => first | k_is | rfl); (case c_check_alphabet => first | k_is | rfl); (case k_check_alphabet => first | k_is | rfl); (case a_is_word => first | k_is | rfl); (case l_is_word => first | k_is | rfl); (case c_is_word => first | k_is | rfl); (case k_is_word => first | k_is | rfl); (case a_check_word => first | k_is | rfl); (case l_check_word => first | k_is | rfl); (case c_check_word => first | k_is | rfl); (case k_check_word => first | k_is | rfl); (case a_check_words => first | k_is | rfl); (case l_check_words => first | k_is | rfl); (case c_check_words => first | k_is | rfl); (case k_check_words => first | k_is | rfl); (case a_numbered => first | k_is | rfl); (case l_numbered => first | k_is | rfl); (case c_numbered => first | k_is | rfl); (case k_numbered => first | k_is | rfl); (case a_sign_index => first | k_is | rfl); (case l_sign_index => first | k_is | rfl); (case c_sign_index => first | k_is | rfl); (case k_sign_index => first | k_is | rfl); (case a_sign_direction => first | k_is | rfl); (case l_sign_direction => first | k_is | rfl); (case c_sign_direction => first | k_is | rfl); (case k_sign_direction => first | k_is | rfl); (case a_road_of => first | k_is | rfl); (case l_road_of => first | k_is | rfl); (case c_road_of => first | k_is | rfl); (case k_road_of => first | k_is | rfl); (case a_counts_along => first | k_is | rfl); (case l_counts_along => first | k_is | rfl); (case c_counts_along => first | k_is | rfl); (case k_counts_along => first | k_is | rfl); (case a_next_classes => first | k_is | rfl); (case l_next_classes => first | k_is | rfl); (case c_next_classes => first | k_is | rfl); (case k_next_classes => first | k_is | rfl); (case a_raw_classes => first | k_is | rfl); (case l_raw_classes => first | k_is | rfl); (case c_raw_classes => first | k_is | rfl); (case k_raw_classes => first | k_is | rfl); (case a_are_one => first | k_is | rfl); (case l_are_one => first | k_is | rfl); (case c_are_one => first | k_is | rfl); (case k_are_one => first | k_is | rfl); (case a_one_at => first | k_is | rfl); (case l_one_at => first | k_is | rfl); (case c_one_at => first | k_is | rfl); (case k_one_at => first | k_is | rfl); (case a__law_swapped => first | k_is | rfl); (case l__law_swapped => first | k_is | rfl); (case c__law_swapped => first | k_is | rfl); (case k__law_swapped => first | k_is | rfl); (case a__law_undone => first | k_is | rfl); (case l__law_undone => first | k_is | rfl); (case c__law_undone => first | k_is | rfl); (case k__law_undone => first | k_is | rfl); (case a__law_class_rows => first | k_is | rfl); (case l__law_class_rows => first | k_is | rfl); (case c__law_class_rows => first | k_is | rfl); (case k__law_class_rows => first | k_is | rfl); (case a__law_one => first | k_is | rfl); (case l__law_one => first | k_is | rfl); (case c__law_one => first | k_is | rfl); (case k__law_one => first | k_is | rfl); (case a__law_struck => first | k_is | rfl); (case l__law_struck => first | k_is | rfl); (case c__law_struck => first | k_is | rfl); (case k__law_struck => first | k_is | rfl); (case a__law_deep => first | k_is | rfl); (case l__law_deep => first | k_is | rfl); (case c__law_deep => first | k_is | rfl); (case k__law_deep => first | k_is | rfl); (case a_law => first | k_is | rfl); (case l_law => first | k_is | rfl); (case c_law => first | k_is | rfl); (case k_law => first | k_is | rfl); (case z_range => first | k_is | rfl); (case z_len => first | k_is | rfl); (case z_int => first | k_is | rfl); (case z_tuple => first | k_is | rfl); (case z_enumerate => first | k_is | rfl); (case z_sorted => first | k_is | rfl); (case z_zip => first | k_is | rfl); (case z_list => first | k_is | rfl); (case z_repr => first | k_is | rfl); (case v_LETTERS => first | k_is | rfl); (case aC_BadCount => first | k_is | rfl); (case eC_BadCount => first | k_is | rfl); (case tC_BadCount => first | k_is | rfl); (case hC_BadCount => first | k_is | rfl); (case iC_BadCount => first | k_is | rfl); (case aC_BadAlphabet => first | k_is | rfl); (case eC_BadAlphabet => first | k_is | rfl); (case tC_BadAlphabet => first | k_is | rfl); (case hC_BadAlphabet => first | k_is | rfl); (case iC_BadAlphabet => first | k_is | rfl); (case aC_BadWord => first | k_is | rfl); (case eC_BadWord => first | k_is | rfl); (case tC_BadWord => first | k_is | rfl); (case hC_BadWord => first | k_is | rfl); (case iC_BadWord => first | k_is | rfl); (case gn => first | k_is | rfl); (case gt => first | k_is | rfl); (case x_BadCount => first | k_is | rfl); (case r_BadCount => first | k_is | rfl); (case sa_BadCount => first | k_is | rfl); (case ga_BadCount => first | k_is | rfl); (case gg_BadCount => first | k_is | rfl); (case ha_BadCount => first | k_is | rfl); (case hm_BadCount => first | k_is | rfl); (case no_BadCount => first | k_is | rfl); (case kC_BadCount => first | k_is | rfl); (case fi_BadCount => first | k_is | rfl); (case ti_BadCount => first | k_is | rfl); (case li_BadCount => first | k_is | rfl); (case ci_BadCount => first | k_is | rfl); (case ki_BadCount => first | k_is | rfl); (case x_BadAlphabet => first | k_is | rfl); (case r_BadAlphabet => first | k_is | rfl); (case sa_BadAlphabet => first | k_is | rfl); (case ga_BadAlphabet => first | k_is | rfl); (case gg_BadAlphabet => first | k_is | rfl); (case ha_BadAlphabet => first | k_is | rfl); (case hm_BadAlphabet => first | k_is | rfl); (case no_BadAlphabet => first | k_is | rfl); (case kC_BadAlphabet => first | k_is | rfl); (case fi_BadAlphabet => first | k_is | rfl); (case ti_BadAlphabet => first | k_is | rfl); (case li_BadAlphabet => first | k_is | rfl); (case ci_BadAlphabet => first | k_is | rfl); (case ki_BadAlphabet => first | k_is | rfl); (case x_BadWord => first | k_is | rfl); (case r_BadWord => first | k_is | rfl); (case sa_BadWord => first | k_is | rfl); (case ga_BadWord => first | k_is | rfl); (case gg_BadWord => first | k_is | rfl); (case ha_BadWord => first | k_is | rfl); (case hm_BadWord => first | k_is | rfl); (case no_BadWord => first | k_is | rfl); (case kC_BadWord => first | k_is | rfl); (case fi_BadWord => first | k_is | rfl); (case ti_BadWord => first | k_is | rfl); (case li_BadWord => first | k_is | rfl); (case ci_BadWord => first | k_is | rfl); (case ki_BadWord => first | k_is | rfl)
